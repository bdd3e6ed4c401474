import PyProof.Rows.All
import Wide.All
import OpenK.AllK
import Wide.FinOn
import HandS.ForMost
import HandS.ForExc
import HandS.Wide
import HandS.WideBits
import HandS.HeadHook1
import HandS.HeadHook2
import HandS.Conv
import HandS.SortInts
import HandS.IsInst
import HandS.TupAny
import HandS.Defaults
import HandS.Style
import HandS.Steps
import HandS.TupLen
import HandS.WordsDict
import KE.KMathGC
import HandS.Gcd
import HandS.Star
import PyProof.Draws
import PyProof.EnumFor
import PyProof.EnumMake
import PyProof.TupleIter
import HandS.Iter
import HandS.ExcInit
import HandS.ExcField
import HandS.ExcCtx
import HandS.HotCalls
import HandS.TryMany
import KE.KDictList
import PyProof.StrWalks
import PyProof.StrOps2
import PyProof.StrLawsFirst
import PyProof.StrLawsTight
import HandS.Text
import HandS.Codes
import HandS.FStr
import KE.KIsAll
import KE.KTryMore
import KE.KCallOwn
import HandS.Exc
import HandS.ExcIs
import HandS.OwnEq
import KE.KOpsOwn
import HandS.StrMore
import PyProof.ZipIter
import HandS.Zip
import KE.DataMinMax
import HandS.SortKw
import PyProof.Rows.StrBool
import PyProof.Rows.Range3
import KE.KStateDown
import HandS.More
import HandS.WordsExc
import HandS.Head0
import HandS.Head1
import HandS.Head2
import HandS.Head3
import HandS.HeadEnd
import HandS.MakeKwOnly
import PySem.Challenge.RW_rulewheel_k02_dayset_counting
set_option Elab.async false
set_option linter.all false
set_option maxRecDepth 100000
set_option maxHeartbeats 0
/-! TLm: what mirrors are written in. Plain Lean, no import. -/
namespace TL
inductive Er where
  | stuck
  deriving DecidableEq
/-- what an exception of the program bears -/
inductive XA where
  | int (i : Int) | txt (s : List Nat)
  deriving DecidableEq
/-- an exception: its class (by number), its fields -/
structure Xc where
  cls : Nat
  args : List XA
  deriving DecidableEq
abbrev Mr (α : Type) : Type := Except Er α
/-- its i-th field, a number or a text -/
def xInt (x : Xc) (i : Nat) : Except Er Int := match x.args[i]? with
  | some (.int v) => .ok v
  | _ => .error .stuck
def xTxt (x : Xc) (i : Nat) : Except Er (List Nat) := match x.args[i]? with
  | some (.txt v) => .ok v
  | _ => .error .stuck
/-- what a def that may raise comes to: a value, or an exception (each with the cells behind) -/
inductive Rz (ε ω : Type) where
  | ret (w : ω) | exc (x : Xc) (c : ε)
/-- what a try's body comes to -/
inductive Tn (τ ε ω : Type) where
  | go (s : τ) | out (w : ω) | exc (x : Xc) (c : ε)
def Tn.k {τ ε ω' ω : Type} (emb : ω' → ω) (k : τ → Mr ω) (h : Xc → ε → Mr ω) : Tn τ ε ω' → Mr ω
  | .go s => k s
  | .out w => .ok (emb w)
  | .exc x c => h x c
/-- a call that may raise -/
def Rz.k {ε ω β : Type} (k : ω → Mr β) (h : Xc → ε → Mr β) : Rz ε ω → Mr β
  | .ret w => k w
  | .exc x c => h x c
/-- .. where nothing is raised -/
def Rz.v {ε ω : Type} : Rz ε ω → Mr ω
  | .ret w => .ok w
  | .exc _ _ => .error .stuck
theorem bind_ok {α β : Type} {p : Mr α} {k : α → Mr β} {r : β} (h : (p >>= k) = .ok r) : ∃ a, p = .ok a ∧ k a = .ok r := by
  cases p with
  | error e => cases h
  | ok a => exact ⟨a, rfl, h⟩
theorem ok_bind {α β : Type} {a : α} {k : α → Mr β} : ((.ok a : Mr α) >>= k) = k a := rfl
theorem error_bind {α β : Type} {e : Er} {k : α → Mr β} : ((.error e : Mr α) >>= k) = .error e := rfl
/-! places -/
def ixQ (n : Nat) (i : Int) : Option Nat := if 0 ≤ i then (if i < n then some i.toNat else none) else if -(n : Int) ≤ i then some (i + n).toNat else none
def atQ {α : Type} (xs : List α) (i : Int) : Option α := (ixQ xs.length i).bind fun j => xs[j]?
def getI {α : Type} (xs : List α) (i : Int) : Mr α := match atQ xs i with
  | some x => .ok x
  | none => .error .stuck
def setI {α : Type} (xs : List α) (i : Int) (x : α) : Mr (List α) := match ixQ xs.length i with
  | some j => .ok (xs.set j x)
  | none => .error .stuck
theorem ixQ_nat {n j : Nat} (h : j < n) : ixQ n (j : Int) = some j := by
  unfold ixQ
  rw [if_pos (by omega), if_pos (by omega)]
  simp
theorem getI_nat {α : Type} {xs : List α} {j : Nat} {x : α} (h : xs[j]? = some x) : getI xs (j : Int) = .ok x := by
  have hj : j < xs.length := (List.getElem?_eq_some_iff.mp h).1
  unfold getI atQ
  rw [ixQ_nat hj]
  show (match xs[j]? with | some x => _ | none => _) = _
  rw [h]
theorem getI_of {α : Type} {xs : List α} {i : Int} (h0 : 0 ≤ i) (h : i < xs.length) : ∃ x, xs[i.toNat]? = some x ∧ getI xs i = .ok x := by
  have hj : i.toNat < xs.length := by omega
  refine ⟨xs[i.toNat], by simp [hj], ?_⟩
  have := getI_nat (xs := xs) (j := i.toNat) (x := xs[i.toNat]) (by simp [hj])
  rwa [Int.toNat_of_nonneg h0] at this
theorem getI_some {α : Type} {xs : List α} {i : Int} {x : α} (h0 : 0 ≤ i) (h : getI xs i = .ok x) : xs[i.toNat]? = some x := by
  unfold getI at h
  split at h
  · rename_i y e
    cases h
    unfold atQ ixQ at e
    rw [if_pos h0] at e
    split at e
    · exact e
    · cases e
  · cases h
theorem setI_nat {α : Type} {xs : List α} {j : Nat} {x : α} (h : j < xs.length) : setI xs (j : Int) x = .ok (xs.set j x) := by
  unfold setI
  rw [ixQ_nat h]
/-! ranges -/
def rngI (a b : Int) : List Int := (List.range (b - a).toNat).map fun (i : Nat) => a + (i : Int)
def rngD (a b : Int) : List Int := (List.range (a - b).toNat).map fun (i : Nat) => a + (i : Int) * (-1)
def rngP (a b : Int) : Mr Unit := if (-(2 ^ 62) ≤ a ∧ a < 2 ^ 62) ∧ (-(2 ^ 62) ≤ b ∧ b < 2 ^ 62) then .ok () else .error .stuck
theorem rngP_pos {a b : Int} (h1 : -(2 ^ 62) ≤ a) (h2 : a < 2 ^ 62) (h3 : -(2 ^ 62) ≤ b) (h4 : b < 2 ^ 62) : rngP a b = .ok () := if_pos ⟨⟨h1, h2⟩, h3, h4⟩
/-! blocks, loops -/
inductive Jn (τ ω : Type) where
  | go (s : τ) | out (w : ω)
def Jn.k {τ ω : Type} (k : τ → Mr ω) : Jn τ ω → Mr ω
  | .go s => k s
  | .out w => .ok w
/-- .. of a clause -/
def Jn.kE {τ ω' ω : Type} (emb : ω' → ω) (k : τ → Mr ω) : Jn τ ω' → Mr ω
  | .go s => k s
  | .out w => .ok (emb w)
inductive Stp (τ ω : Type) where
  | go (s : τ) | cnt (s : τ) | brk (s : τ) | out (w : ω)
def Stp.k {τ ω : Type} (k : τ → Mr ω) : Stp τ ω → Mr ω
  | .go s => k s
  | .cnt s => k s
  | .brk s => k s
  | .out w => .ok w
def forL {α τ ω : Type} : List α → τ → (τ → α → Mr (Stp τ ω)) → Mr (Stp τ ω)
  | [], s, _ => .ok (.go s)
  | x :: xs, s, f => match f s x with
    | .error e => .error e
    | .ok (.go s') => forL xs s' f
    | .ok (.cnt s') => forL xs s' f
    | .ok (.brk s') => .ok (.brk s')
    | .ok (.out w) => .ok (.out w)
def whileL {τ ω : Type} (c : τ → Mr Bool) (f : τ → Mr (Stp τ ω)) : Nat → τ → Mr (Stp τ ω)
  | 0, _ => .error .stuck
  | n + 1, s => match c s with
    | .error e => .error e
    | .ok false => .ok (.go s)
    | .ok true => match f s with
      | .error e => .error e
      | .ok (.go s') => whileL c f n s'
      | .ok (.cnt s') => whileL c f n s'
      | .ok (.brk s') => .ok (.brk s')
      | .ok (.out w) => .ok (.out w)
/-! comprehensions -/
def lcR {α β τ : Type} : List α → τ → (τ → α → Mr (Option β × τ)) → Mr (List β × τ)
  | [], s, _ => .ok ([], s)
  | x :: xs, s, f => match f s x with
    | .error e => .error e
    | .ok (o, s1) => match lcR xs s1 f with
      | .error e => .error e
      | .ok (ys, s2) => .ok (o.toList ++ ys, s2)
def mapR {α β : Type} (f : α → Mr β) : List α → Mr (List β)
  | [] => .ok []
  | x :: xs => match f x with
    | .error e => .error e
    | .ok y => match mapR f xs with
      | .error e => .error e
      | .ok ys => .ok (y :: ys)
def mapS {α β τ : Type} (f : τ → α → Mr (β × τ)) : List α → τ → Mr (List β × τ)
  | [], s => .ok ([], s)
  | x :: xs, s => match f s x with
    | .error e => .error e
    | .ok (y, s1) => match mapS f xs s1 with
      | .error e => .error e
      | .ok (ys, s2) => .ok (y :: ys, s2)
def filR {α β : Type} (f : α → Mr (Option β)) : List α → Mr (List β)
  | [] => .ok []
  | x :: xs => match f x with
    | .error e => .error e
    | .ok o => match filR f xs with
      | .error e => .error e
      | .ok ys => .ok (o.toList ++ ys)
theorem mapR_ok {α β : Type} {f : α → Mr β} {g : α → β} : ∀ {xs : List α}, (∀ x ∈ xs, f x = .ok (g x)) → mapR f xs = .ok (xs.map g)
  | [], _ => rfl
  | x :: xs, h => by
    unfold mapR
    rw [h x (List.mem_cons_self ..)]
    dsimp only
    rw [mapR_ok fun y hy => h y (List.mem_cons_of_mem _ hy)]
    rfl
theorem forL_go {α τ ω : Type} {f : τ → α → Mr (Stp τ ω)} {g : τ → α → τ} : ∀ {xs : List α} {s : τ}, (∀ s, ∀ x ∈ xs, f s x = .ok (.go (g s x))) → forL xs s f = .ok (.go (xs.foldl g s))
  | [], _, _ => rfl
  | x :: xs, s, h => by
    unfold forL
    rw [h s x (List.mem_cons_self ..)]
    exact forL_go fun s y hy => h s y (List.mem_cons_of_mem _ hy)
/-! bounds -/
def growOk {α : Type} (xs : List α) : Mr Unit := if xs.length < 16777216 then .ok () else .error .stuck
def catOk {α β : Type} (xs : List α) (ys : List β) : Mr Unit := if xs.length + ys.length ≤ 16777216 then .ok () else .error .stuck
def repL {α : Type} (xs : List α) (n : Int) : List α := (List.replicate n.toNat xs).flatten
def repOk {α : Type} (xs : List α) (n : Int) : Mr Unit := if -(2 ^ 63) ≤ n ∧ n < 2 ^ 63 ∧ xs.length * n.toNat ≤ 16777216 then .ok () else .error .stuck
def sizeP {α : Type} (xs : List α) : Mr Unit := if xs.length ≤ 16777216 then .ok () else .error .stuck
/-! slices -/
def sIxQ (n d : Nat) : Option Int → Nat
  | none => d
  | some v => if v < 0 then (v + (n : Int)).toNat else min v.toNat n
def cut {α : Type} (xs : List α) (lo hi : Option Int) : List α := (xs.drop (sIxQ xs.length 0 lo)).take (sIxQ xs.length xs.length hi - sIxQ xs.length 0 lo)
theorem cut_from {α : Type} {xs : List α} {a : Int} (h : 0 ≤ a) : cut xs (some a) none = xs.drop a.toNat := by
  unfold cut sIxQ
  simp only [if_neg (show ¬ a < 0 by omega)]
  by_cases hl : a.toNat ≤ xs.length
  · rw [Nat.min_eq_left hl, List.take_of_length_le]
    rw [List.length_drop]
    exact Nat.le_refl _
  · rw [Nat.min_eq_right (by omega), List.drop_eq_nil_of_le (Nat.le_refl _), List.drop_eq_nil_of_le (by omega)]
    simp
theorem cut_to {α : Type} {xs : List α} {b : Int} (h : 0 ≤ b) : cut xs none (some b) = xs.take b.toNat := by
  unfold cut sIxQ
  simp only [if_neg (show ¬ b < 0 by omega)]
  rw [List.drop_zero, Nat.sub_zero]
  by_cases hl : b.toNat ≤ xs.length
  · rw [Nat.min_eq_left hl]
  · rw [Nat.min_eq_right (by omega), List.take_of_length_le (Nat.le_refl _), List.take_of_length_le (by omega)]
/-! numbers -/
def absI (a : Int) : Int := if a < 0 then -a else a
/-- how many bits (as the model counts them) -/
def bitsQ (a : Int) : Nat := if a.natAbs = 0 then 0 else a.natAbs.log2 + 1
def modP (a b : Int) : Mr Int := if 0 < b then .ok (a % b) else .error .stuck
def fdivP (a b : Int) : Mr Int := if 0 < b ∧ b.natAbs.log2 < 9000 then .ok (a / b) else .error .stuck
def mulP (a b : Int) : Mr Int := if bitsQ a + bitsQ b ≤ 134217728 then .ok (a * b) else .error .stuck
def powP (a b : Int) : Mr Int := if 0 ≤ b ∧ (bitsQ a : Int) * b ≤ 2 ^ 27 then .ok (a ^ b.toNat) else .error .stuck
def lcmP (a b : Int) : Mr Int := if bitsQ a ≤ 13000 ∧ bitsQ b ≤ 13000 then .ok ((a.natAbs.lcm b.natAbs : Nat) : Int) else .error .stuck
def gcdI (a b : Int) : Int := ((a.natAbs.gcd b.natAbs : Nat) : Int)
def shrP (a b : Int) : Mr Int := if 0 ≤ b then .ok (a / 2 ^ b.toNat) else .error .stuck
theorem modP_pos {a b : Int} (h : 0 < b) : modP a b = .ok (a % b) := if_pos h
def enumI {α : Type} (xs : List α) : List (Int × α) := xs.zipIdx.map fun p => ((p.2 : Int), p.1)
/-- behind the first one -/
def getT {α : Type} (xs : List α) (k : Int) : Mr α := if 1 ≤ k then getI xs (k - 1) else .error .stuck
/-! None or a value; dicts -/
def getO {α : Type} : Option α → Mr α
  | some x => .ok x
  | none => .error .stuck
def dget {κ α : Type} [DecidableEq κ] (xs : List (κ × α)) (k : κ) : Option α := (xs.find? fun kv => decide (kv.1 = k)).map (·.2)
def dput {κ α : Type} [DecidableEq κ] (xs : List (κ × α)) (k : κ) (x : α) : List (κ × α) :=
  if (xs.any fun kv => decide (kv.1 = k)) = true then xs.map (fun kv => if kv.1 = k then (kv.1, x) else kv) else xs ++ [(k, x)]
def getD {κ α : Type} [DecidableEq κ] (xs : List (κ × α)) (k : κ) : Mr α := match dget xs k with
  | some x => .ok x
  | none => .error .stuck
def popI {α : Type} (xs : List α) (i : Int) : Mr (α × List α) := match ixQ xs.length i with
  | some j => match xs[j]? with
    | some x => .ok (x, xs.eraseIdx j)
    | none => .error .stuck
  | none => .error .stuck
def maxL : List Int → Mr Int
  | [] => .error .stuck
  | n :: ns => .ok (ns.foldl (fun a b => if b > a then b else a) n)
def minL : List Int → Mr Int
  | [] => .error .stuck
  | n :: ns => .ok (ns.foldl (fun a b => if b < a then b else a) n)
def sortI (ns : List Int) : List Int := ns.mergeSort fun a b => decide (a ≤ b)
/-! texts, sums -/
def joinX (sep : List Nat) : List (List Nat) → List Nat
  | [] => []
  | p :: ps => p ++ (ps.map fun q => sep ++ q).flatten
def joinOk (sep : List Nat) (ys : List (List Nat)) : Mr Unit := if (ys.map (·.length)).sum + ys.length * sep.length ≤ 16777216 then .ok () else .error .stuck
def findX (a : List Nat) (c : Nat) : Int := match a.findIdx? (· == c) with
  | some i => (i : Int)
  | none => -1
def endsX (a : List Nat) (c : Nat) : Bool := a.getLast? == some c
def getL {α β : Type} : α ⊕ β → Mr α
  | .inl x => .ok x
  | .inr _ => .error .stuck
def getR {α β : Type} : α ⊕ β → Mr β
  | .inr x => .ok x
  | .inl _ => .error .stuck
/-- signs that a text may have -/
def okT (l : List Nat) : Bool := l.all fun c => decide (c < 1114112)
def wellP (c : Bool) : Mr Unit := if c = true then .ok () else .error .stuck
theorem wellP_of {c : Bool} {r : Unit} (h : wellP c = .ok r) : c = true := by
  unfold wellP at h
  split at h
  · assumption
  · cases h
theorem wellP_ok {c : Bool} (h : c = true) : wellP c = .ok () := if_pos h
/-! signs sought from a place on, up to a place; signs as numbers; two texts side by side -/
def firstF (a : List Nat) (c lo : Nat) : Int := match (List.range' lo (a.length - lo)).find? (fun k => a[k]? == some c) with
  | some k => (k : Int)
  | none => -1
def lastF (a : List Nat) (c hi : Nat) : Int := match (List.range hi).find? (fun r => a[hi - 1 - r]? == some c) with
  | some r => ((hi - 1 - r : Nat) : Int)
  | none => -1
def findX3 (a : List Nat) (c : Nat) (i : Int) : Int := firstF a c (if i < 0 then i + (a.length : Int) else i).toNat
def rfindX (a : List Nat) (c : Nat) (j : Int) : Int := lastF a c (min (if j < 0 then j + (a.length : Int) else j).toNat a.length)
def intX : List Nat → Mr Int
  | [c] => if 48 ≤ c ∧ c ≤ 57 then .ok ((c : Int) - 48) else .error .stuck
  | _ => .error .stuck
def zipX (a b : List Nat) : List (List Nat × List Nat) := (a.zip b).map fun p => ([p.1], [p.2])
def zipP {α β : Type} (a : List α) (b : List β) : Mr Unit := if a.length = b.length then .ok () else .error .stuck
theorem zipP_of {α β : Type} {a : List α} {b : List β} {r : Unit} (h : zipP a b = .ok r) : a.length = b.length := by
  unfold zipP at h
  split at h
  · assumption
  · cases h
/-- max(xs, default=d) -/
def maxD0 (d : Int) : List Int → Int
  | [] => d
  | n :: ns => ns.foldl (fun a b => if b > a then b else a) n
def divP (a b : Int) : Mr (Int × Int) := if 0 < b ∧ b.natAbs.log2 < 9000 then .ok (a / b, a % b) else .error .stuck
/-- the last place of a sign -/
def rfindA (a : List Nat) (c : Nat) : Int := lastF a c a.length
/-! methods of lists: pop(), insert, remove; a list's place by its number -/
def popE {α : Type} (xs : List α) : Mr (α × List α) := match xs.getLast? with
  | some x => .ok (x, xs.dropLast)
  | none => .error .stuck
def insP {α : Type} (xs : List α) (i : Int) (x : α) : Mr (List α) := if 0 ≤ i ∧ i < 2 ^ 63 ∧ xs.length < 16777216 then .ok (xs.take i.toNat ++ [x] ++ xs.drop i.toNat) else .error .stuck
def remD {α : Type} [BEq α] (xs : List α) (x : α) : Mr (List α) := match xs.findIdx? (fun y => y == x) with
  | some j => .ok (xs.eraseIdx j)
  | none => .error .stuck
def ixJ (n : Nat) (i : Int) : Nat := (ixQ n i).getD 0
end TL

/-! TLp: rules for mirrors that come to an end well. Plain Lean. -/
namespace TL
def Post {α : Type} (m : Mr α) (Q : α → Prop) : Prop := ∃ a, m = .ok a ∧ Q a
section
variable {α β τ ω : Type}
theorem post_ok {a : α} {Q : α → Prop} (h : Q a) : Post (.ok a : Mr α) Q := ⟨a, rfl, h⟩
theorem post_eq {m : Mr α} {a : α} {Q : α → Prop} (e : m = .ok a) (h : Q a) : Post m Q := ⟨a, e, h⟩
theorem post_bind {m : Mr α} {k : α → Mr β} {Q : α → Prop} {R : β → Prop} (h : Post m Q) (g : ∀ a, Q a → Post (k a) R) : Post (m >>= k) R := by
  obtain ⟨a, e, q⟩ := h
  obtain ⟨b, e2, r⟩ := g a q
  exact ⟨b, by rw [e]; exact e2, r⟩
theorem post_bindE {m : Mr α} {k : α → Mr β} {a : α} {R : β → Prop} (e : m = .ok a) (g : Post (k a) R) : Post (m >>= k) R := by
  rw [e]
  exact g
theorem post_if {c : Prop} [Decidable c] {a b : Mr α} {Q : α → Prop} (h1 : c → Post a Q) (h2 : ¬ c → Post b Q) : Post (if c then a else b) Q := by
  by_cases h : c
  · rw [if_pos h]
    exact h1 h
  · rw [if_neg h]
    exact h2 h
theorem post_mono {m : Mr α} {Q R : α → Prop} (h : Post m Q) (g : ∀ a, Q a → R a) : Post m R := by
  obtain ⟨a, e, q⟩ := h
  exact ⟨a, e, g a q⟩
/-- what a block may come to -/
def JQ (A : τ → Prop) (B : ω → Prop) : Jn τ ω → Prop
  | .go s => A s
  | .out w => B w
def SQ (A : τ → Prop) (B : τ → Prop) (W : ω → Prop) : Stp τ ω → Prop
  | .go s => A s
  | .cnt s => A s
  | .brk s => B s
  | .out w => W w
theorem post_jn {m : Mr (Jn τ ω)} {k : τ → Mr ω} {A : τ → Prop} {Q : ω → Prop} (h : Post m (JQ A Q)) (g : ∀ s, A s → Post (k s) Q) : Post (m >>= Jn.k k) Q := by
  refine post_bind h fun j q => ?_
  cases j with
  | go s => exact g s q
  | out w => exact post_ok q
theorem post_stp {m : Mr (Stp τ ω)} {k : τ → Mr ω} {A : τ → Prop} {Q : ω → Prop} (h : Post m (SQ A A Q)) (g : ∀ s, A s → Post (k s) Q) : Post (m >>= Stp.k k) Q := by
  refine post_bind h fun j q => ?_
  cases j with
  | go s => exact g s q
  | cnt s => exact g s q
  | brk s => exact g s q
  | out w => exact post_ok q
theorem post_for {xs : List α} {s : τ} {f : τ → α → Mr (Stp τ ω)} (I : Nat → τ → Prop) {W : ω → Prop} {n : Nat} (h0 : I n s) (h : ∀ k s x, x ∈ xs → k < n + xs.length → I k s → Post (f s x) (SQ (I (k + 1)) (I (n + xs.length)) W)) : Post (forL xs s f) (SQ (I (n + xs.length)) (I (n + xs.length)) W) := by
  induction xs generalizing s n with
  | nil => exact post_ok h0
  | cons x xs ih =>
    have en : n + (x :: xs).length = n + 1 + xs.length := by simp; omega
    rw [en] at h ⊢
    obtain ⟨j, e, q⟩ := h n s x (List.mem_cons_self ..) (by omega) h0
    unfold forL
    rw [e]
    cases j with
    | go s1 => exact ih q fun k s y hy hk => h k s y (List.mem_cons_of_mem _ hy) hk
    | cnt s1 => exact ih q fun k s y hy hk => h k s y (List.mem_cons_of_mem _ hy) hk
    | brk s1 => exact post_ok q
    | out w => exact post_ok q
theorem post_forI {xs : List α} {s : τ} {f : τ → α → Mr (Stp τ ω)} {I : τ → Prop} {W : ω → Prop} (h0 : I s) (h : ∀ s x, x ∈ xs → I s → Post (f s x) (SQ I I W)) : Post (forL xs s f) (SQ I I W) :=
  post_for (n := 0) (fun _ => I) h0 fun _ s x hx _ i => h s x hx i
theorem post_forA {xs : List α} {s : τ} {f : τ → α → Mr (Stp τ ω)} (I : Nat → τ → Prop) {A : τ → Prop} {W : ω → Prop} (h0 : I 0 s) (h : ∀ k s x, x ∈ xs → k < xs.length → I k s → Post (f s x) (SQ (I (k + 1)) (I xs.length) W)) (fin : ∀ s, I xs.length s → A s) : Post (forL xs s f) (SQ A A W) := by
  refine post_mono (post_for (n := 0) (W := W) I h0 fun k s x hx hk hs => ?_) fun j hj => ?_
  · rw [Nat.zero_add] at hk ⊢
    exact h k s x hx hk hs
  · rw [Nat.zero_add] at hj
    cases j with
    | go s => exact fin s hj
    | cnt s => exact fin s hj
    | brk s => exact fin s hj
    | out w => exact hj
theorem post_mapS {f : τ → α → Mr (β × τ)} {I : τ → Prop} {B : β → Prop} : ∀ {xs : List α} {s : τ}, I s → (∀ s x, x ∈ xs → I s → Post (f s x) fun r => B r.1 ∧ I r.2) → Post (mapS f xs s) fun r => r.1.length = xs.length ∧ (∀ y ∈ r.1, B y) ∧ I r.2
  | [], s, h0, _ => post_ok (a := ([], s)) ⟨rfl, fun _ h => (by cases h), h0⟩
  | x :: xs, s, h0, h => by
    obtain ⟨⟨y, s1⟩, e, b, i⟩ := h s x (List.mem_cons_self ..) h0
    obtain ⟨⟨ys, s2⟩, e2, l, bs, i2⟩ := post_mapS (xs := xs) i fun s y hy => h s y (List.mem_cons_of_mem _ hy)
    refine ⟨(y :: ys, s2), ?_, by simpa using l, ?_, i2⟩
    · unfold mapS
      rw [e]
      show (match mapS f xs s1 with | .error e => _ | .ok (ys, s2) => _) = _
      rw [e2]
    · intro z hz
      rcases List.mem_cons.mp hz with rfl | hz
      · exact b
      · exact bs z hz
theorem post_filR {f : α → Mr (Option β)} : ∀ {xs : List α}, (∀ x ∈ xs, Post (f x) fun _ => True) → Post (filR f xs) fun r => r.length ≤ xs.length
  | [], _ => post_ok (Nat.le_refl _)
  | x :: xs, h => by
    obtain ⟨o, e, _⟩ := h x (List.mem_cons_self ..)
    obtain ⟨ys, e2, l⟩ := post_filR (xs := xs) fun y hy => h y (List.mem_cons_of_mem _ hy)
    refine ⟨o.toList ++ ys, ?_, ?_⟩
    · unfold filR
      rw [e]
      show (match filR f xs with | .error e => _ | .ok ys => _) = _
      rw [e2]
    · have : o.toList.length ≤ 1 := by cases o <;> simp
      simp only [List.length_append, List.length_cons]
      omega
end
theorem rngI_cons {a b : Int} (h : a < b) : rngI a b = a :: rngI (a + 1) b := by
  unfold rngI
  have e : (b - a).toNat = (b - (a + 1)).toNat + 1 := by omega
  rw [e, List.range_succ_eq_map, List.map_cons, List.map_map]
  congr 1
  · omega
  · refine List.map_congr_left fun i _ => ?_
    simp
    omega
theorem rngI_nil {a b : Int} (h : b ≤ a) : rngI a b = [] := by
  unfold rngI
  have e : (b - a).toNat = 0 := by omega
  rw [e]
  rfl
theorem post_rng0 {τ ω : Type} {f : τ → Int → Mr (Stp τ ω)} {b : Int} (I : Int → τ → Prop) {A : τ → Prop} {W : ω → Prop} (fin : ∀ s, I b s → A s) : ∀ (n : Nat) (a : Int) (s : τ), b - a = n → I a s → (∀ x s, a ≤ x → x < b → I x s → Post (f s x) (SQ (I (x + 1)) A W)) → Post (forL (rngI a b) s f) (SQ A A W)
  | 0, a, s, e, h0, _ => by
    rw [rngI_nil (by omega)]
    have : a = b := by omega
    subst this
    exact post_ok (fin s h0)
  | n + 1, a, s, e, h0, h => by
    rw [rngI_cons (by omega)]
    obtain ⟨j, ej, q⟩ := h a s (Int.le_refl a) (by omega) h0
    unfold forL
    rw [ej]
    cases j with
    | go s1 => exact post_rng0 I fin n (a + 1) s1 (by omega) q fun x s h1 h2 => h x s (by omega) h2
    | cnt s1 => exact post_rng0 I fin n (a + 1) s1 (by omega) q fun x s h1 h2 => h x s (by omega) h2
    | brk s1 => exact post_ok q
    | out w => exact post_ok q
/-- a loop over a range, by an invariant that tells the next item -/
theorem post_rng {τ ω : Type} {f : τ → Int → Mr (Stp τ ω)} {a b : Int} {s : τ} (I : Int → τ → Prop) {A : τ → Prop} {W : ω → Prop} (hab : a ≤ b) (h0 : I a s) (h : ∀ x s, a ≤ x → x < b → I x s → Post (f s x) (SQ (I (x + 1)) A W)) (fin : ∀ s, I b s → A s) : Post (forL (rngI a b) s f) (SQ A A W) :=
  post_rng0 I fin (b - a).toNat a s (by omega) h0 h
theorem rngI_len (a b : Int) : (rngI a b).length = (b - a).toNat := by simp [rngI]
theorem mem_rngI {a b x : Int} : x ∈ rngI a b ↔ a ≤ x ∧ x < b := by
  unfold rngI
  rw [List.mem_map]
  constructor
  · rintro ⟨i, hi, rfl⟩
    have := List.mem_range.mp hi
    omega
  · rintro ⟨h1, h2⟩
    refine ⟨(x - a).toNat, List.mem_range.mpr (by omega), by omega⟩
theorem mem_drop {α : Type} {xs : List α} {n : Nat} {x : α} : x ∈ xs.drop n ↔ ∃ i, n ≤ i ∧ xs[i]? = some x := by
  rw [List.mem_iff_getElem?]
  constructor
  · rintro ⟨i, h⟩
    rw [List.getElem?_drop] at h
    exact ⟨n + i, by omega, h⟩
  · rintro ⟨i, h1, h2⟩
    refine ⟨i - n, ?_⟩
    rw [List.getElem?_drop]
    rwa [show n + (i - n) = i by omega]
theorem modP_ok {a b : Int} (h : 0 < b) : modP a b = .ok (a % b) := if_pos h
theorem fdivP_ok {a b : Int} (h : 0 < b) (h2 : b < 2 ^ 62) : fdivP a b = .ok (a / b) := by
  have h1 : b.natAbs < 2 ^ 62 := by omega
  have h3 : b.natAbs ≠ 0 := by omega
  have h4 := (Nat.log2_lt h3).mpr h1
  exact if_pos ⟨h, by omega⟩
theorem bitsQ_le {a : Int} {k : Nat} (h : a.natAbs < 2 ^ k) : bitsQ a ≤ k := by
  unfold bitsQ
  split
  · omega
  · rename_i h0
    have := (Nat.log2_lt h0).mpr h
    omega
theorem mulP_ok {a b : Int} (h1 : 0 ≤ a) (h2 : a < 2 ^ 62) (h3 : 0 ≤ b) (h4 : b < 2 ^ 62) : mulP a b = .ok (a * b) := by
  unfold mulP
  have := bitsQ_le (a := a) (k := 62) (by omega)
  have := bitsQ_le (a := b) (k := 62) (by omega)
  rw [if_pos (by omega)]
theorem shrP_ok {a b : Int} (h : 0 ≤ b) : shrP a b = .ok (a / 2 ^ b.toNat) := if_pos h
theorem growOk_ok {α : Type} {xs : List α} (h : xs.length < 16777216) : growOk xs = .ok () := if_pos h
theorem catOk_ok {α β : Type} {xs : List α} {ys : List β} (h : xs.length + ys.length ≤ 16777216) : catOk xs ys = .ok () := if_pos h
theorem sizeP_ok {α : Type} {xs : List α} (h : xs.length ≤ 16777216) : sizeP xs = .ok () := if_pos h
theorem repL_len {α : Type} {xs : List α} {n : Int} : (repL xs n).length = xs.length * n.toNat := by
  unfold repL
  simp [List.length_flatten, Nat.mul_comm]
theorem post_getI {α : Type} {xs : List α} {i : Int} (h0 : 0 ≤ i) (h : i < xs.length) : Post (getI xs i) fun x => xs[i.toNat]? = some x := by
  obtain ⟨x, e, g⟩ := getI_of h0 h
  exact ⟨x, g, e⟩
theorem post_setI {α : Type} {xs : List α} {i : Int} {x : α} (h0 : 0 ≤ i) (h : i < xs.length) : Post (setI xs i x) fun r => r = xs.set i.toNat x := by
  have := setI_nat (xs := xs) (j := i.toNat) (x := x) (by omega)
  rw [Int.toNat_of_nonneg h0] at this
  exact ⟨_, this, rfl⟩
theorem firstF_cases {a : List Nat} {c : Nat} (lo : Nat) : (firstF a c lo = -1 ∧ ∀ i, lo ≤ i → a[i]? ≠ some c) ∨ ∃ i : Nat, firstF a c lo = (i : Int) ∧ lo ≤ i ∧ a[i]? = some c ∧ ∀ k, lo ≤ k → k < i → a[k]? ≠ some c := by
  unfold firstF
  cases e : (List.range' lo (a.length - lo)).find? (fun k => a[k]? == some c) with
  | none =>
    refine .inl ⟨rfl, fun i hi ei => ?_⟩
    have hl := (List.getElem?_eq_some_iff.mp ei).1
    have := List.find?_eq_none.mp e i (List.mem_range'_1.mpr ⟨hi, by omega⟩)
    simp [ei] at this
  | some i =>
    obtain ⟨h1, h2, h3⟩ := List.find?_range'_eq_some.mp e
    have h2 := List.mem_range'_1.mp h2
    refine .inr ⟨i, rfl, h2.1, by simpa using h1, fun k k1 k2 => ?_⟩
    simpa using h3 k k1 k2
theorem lastF_cases {a : List Nat} {c : Nat} (hi : Nat) : (lastF a c hi = -1 ∧ ∀ i, i < hi → a[i]? ≠ some c) ∨ ∃ i : Nat, lastF a c hi = (i : Int) ∧ i < hi ∧ a[i]? = some c ∧ ∀ k, i < k → k < hi → a[k]? ≠ some c := by
  unfold lastF
  cases e : (List.range hi).find? (fun r => a[hi - 1 - r]? == some c) with
  | none =>
    refine .inl ⟨rfl, fun i h ei => ?_⟩
    have := List.find?_eq_none.mp e (hi - 1 - i) (List.mem_range.mpr (by omega))
    have e2 : hi - 1 - (hi - 1 - i) = i := by omega
    rw [e2] at this
    simp [ei] at this
  | some r =>
    obtain ⟨h1, h2, h3⟩ := List.find?_range_eq_some.mp e
    have h2 := List.mem_range.mp h2
    refine .inr ⟨hi - 1 - r, rfl, by omega, by simpa using h1, fun k k1 k2 => ?_⟩
    have := h3 (hi - 1 - k) (by omega)
    have e2 : hi - 1 - (hi - 1 - k) = k := by omega
    rw [e2] at this
    simpa using this
end TL

/-! TL: typed readings. A layer of our own over the hand layer: values by typed representations, a stable heap S beside a list of own cells.
A cell is an object with all that it owns (its footprint); cells are apart from one another. -/
namespace TL
open PySem L2

/-! ### representations -/
structure TV where
  p : PySem.W.Frag → Hp → V → Prop
  mono : ∀ {K : PySem.W.Frag} {S S' : Hp} {v : V}, Same S S' → p K S v → p K S' v
structure Rep (α : Type) where
  p : PySem.W.Frag → Hp → V → α → Prop
  mono : ∀ {K : PySem.W.Frag} {S S' : Hp} {v : V} {a : α}, Same S S' → p K S v a → p K S' v a
def tv {α : Type} (R : Rep α) (a : α) : TV := ⟨fun K S v => R.p K S v a, R.mono⟩

def Pre (ls ls' : List Addr) : Prop := ∃ more, ls' = ls ++ more
theorem Pre.refl (ls : List Addr) : Pre ls ls := ⟨[], by simp⟩
theorem Pre.trans {a b c : List Addr} (h : Pre a b) (g : Pre b c) : Pre a c := by
  obtain ⟨x, rfl⟩ := h
  obtain ⟨y, rfl⟩ := g
  exact ⟨x ++ y, by simp⟩
theorem Pre.get {ls ls' : List Addr} (h : Pre ls ls') {k : Nat} {a : Addr} (e : ls[k]? = some a) : ls'[k]? = some a := by
  obtain ⟨m, rfl⟩ := h
  rw [List.getElem?_append_left (List.getElem?_eq_some_iff.mp e).1]
  exact e
theorem Pre.mem {ls ls' : List Addr} (h : Pre ls ls') {a : Addr} (e : a ∈ ls) : a ∈ ls' := by
  obtain ⟨m, rfl⟩ := h
  exact List.mem_append_left _ e
theorem Pre.app {ls ls' m : List Addr} (h : Pre ls ls') : Pre ls (ls' ++ m) := h.trans ⟨m, rfl⟩
theorem Pre.cut {ls l : List Addr} {a : Addr} (h : Pre ls (l ++ [a])) (hl : ls.length ≤ l.length) : Pre ls l := by
  obtain ⟨m, e⟩ := h
  refine ⟨l.drop ls.length, ?_⟩
  have e2 := congrArg (List.take ls.length) e
  rw [List.take_append_of_le_length hl, List.take_left] at e2
  rw [← e2, List.length_take, Nat.min_eq_left hl]
  exact (List.take_append_drop _ _).symm

/-- what a slot holds: a value that stands, or an own cell -/
inductive SV where
  | val (t : TV) | cell (k : Nat)
def SV.p (K : PySem.W.Frag) (S : Hp) (ls : List Addr) (v : V) : SV → Prop
  | .val t => t.p K S v
  | .cell k => ∃ a, ls[k]? = some a ∧ v = .ref a
theorem SV.mono {K : PySem.W.Frag} {S S' : Hp} {ls ls' : List Addr} {v : V} (h : Same S S') (g : Pre ls ls') : ∀ {s : SV}, s.p K S ls v → s.p K S' ls' v
  | .val t, q => t.mono h q
  | .cell k, ⟨a, e, r⟩ => ⟨a, g.get e, r⟩
def AllS (K : PySem.W.Frag) (S : Hp) (ls : List Addr) : List V → List SV → Prop := Paired fun v s => s.p K S ls v
theorem Paired.imp {α β : Type} {F G : α → β → Prop} : ∀ {l₁ : List α} {l₂ : List β}, Paired F l₁ l₂ → (∀ a b, F a b → G a b) → Paired G l₁ l₂
  | _, _, .nil, _ => .nil
  | _, _, .cons r t, f => .cons (f _ _ r) (Paired.imp t f)
theorem AllS.mono {K : PySem.W.Frag} {S S' : Hp} {ls ls' : List Addr} {vs : List V} {ss : List SV} (h : Same S S') (g : Pre ls ls') (q : AllS K S ls vs ss) : AllS K S' ls' vs ss :=
  Paired.imp q fun _ _ z => SV.mono h g z
theorem Paired.get1 {α β : Type} {F : α → β → Prop} : ∀ {l₁ : List α} {l₂ : List β} {i : Nat} {x : α}, Paired F l₁ l₂ → l₁[i]? = some x → ∃ y, l₂[i]? = some y ∧ F x y
  | _, _, _, _, .nil, e => by simp at e
  | _, _, 0, _, .cons r _, e => by
    simp at e
    subst e
    exact ⟨_, rfl, r⟩
  | _, _, i + 1, x, .cons _ t, e => by
    obtain ⟨u, h1, h2⟩ := Paired.get1 (i := i) (x := x) t (by simpa using e)
    exact ⟨u, by simpa using h1, h2⟩
theorem Paired.get2 {α β : Type} {F : α → β → Prop} : ∀ {l₁ : List α} {l₂ : List β} {i : Nat} {y : β}, Paired F l₁ l₂ → l₂[i]? = some y → ∃ x, l₁[i]? = some x ∧ F x y
  | _, _, _, _, .nil, e => by simp at e
  | _, _, 0, _, .cons r _, e => by
    simp at e
    subst e
    exact ⟨_, rfl, r⟩
  | _, _, i + 1, x, .cons _ t, e => by
    obtain ⟨u, h1, h2⟩ := Paired.get2 (i := i) (y := x) t (by simpa using e)
    exact ⟨u, by simpa using h1, h2⟩
theorem Paired.app {α β : Type} {F : α → β → Prop} : ∀ {a : List α} {b : List β} {c : List α} {d : List β}, Paired F a b → Paired F c d → Paired F (a ++ c) (b ++ d)
  | _, _, _, _, .nil, q => q
  | _, _, _, _, .cons r t, q => .cons r (Paired.app t q)
theorem Paired.set {α β : Type} {F : α → β → Prop} {x : α} {y : β} (r : F x y) : ∀ {a : List α} {b : List β} (j : Nat), Paired F a b → Paired F (a.set j x) (b.set j y)
  | _, _, _, .nil => .nil
  | _, _, 0, .cons _ t => .cons r t
  | _, _, j + 1, .cons q t => .cons q (Paired.set r j t)
theorem Paired.take {α β : Type} {F : α → β → Prop} : ∀ {a : List α} {b : List β} (n : Nat), Paired F a b → Paired F (a.take n) (b.take n)
  | _, _, 0, _ => by simp; exact .nil
  | _, _, _ + 1, .nil => .nil
  | _, _, n + 1, .cons q t => .cons q (Paired.take n t)
theorem Paired.drop {α β : Type} {F : α → β → Prop} : ∀ {a : List α} {b : List β} (n : Nat), Paired F a b → Paired F (a.drop n) (b.drop n)
  | _, _, 0, q => q
  | _, _, _ + 1, .nil => .nil
  | _, _, n + 1, .cons q t => Paired.drop n t
theorem Paired.rev {α β : Type} {F : α → β → Prop} : ∀ {a : List α} {b : List β}, Paired F a b → Paired F a.reverse b.reverse
  | _, _, .nil => .nil
  | _, _, .cons q t => by
    rw [List.reverse_cons, List.reverse_cons]
    exact Paired.app (Paired.rev t) (.cons q .nil)


/-! ### cells -/
abbrev FP := Addr → Prop
/-- a cell's content: what stands at its address, and its footprint -/
structure MV where
  q : PySem.W.Frag → Hp → Hp → Addr → FP → Prop
  mono : ∀ {K : PySem.W.Frag} {S S' H : Hp} {a : Addr} {f : FP}, Same S S' → q K S H a f → q K S' H a f
  loc : ∀ {K : PySem.W.Frag} {S H H' : Hp} {a : Addr} {f : FP}, (∀ b, f b → H' b = H b) → q K S H a f → q K S H' a f
  hd : ∀ {K : PySem.W.Frag} {S H : Hp} {a : Addr} {f : FP}, q K S H a f → f a
/-- one object alone -/
structure FV where
  q : PySem.W.Frag → Hp → Addr → HO → Prop
  mono : ∀ {K : PySem.W.Frag} {S S' : Hp} {a : Addr} {o : HO}, Same S S' → q K S a o → q K S' a o
def flat (m : FV) : MV where
  q := fun K S H a f => (∀ b, f b ↔ b = a) ∧ ∃ o, H a = some o ∧ m.q K S a o
  mono := fun h ⟨e, o, e1, e2⟩ => ⟨e, o, e1, m.mono h e2⟩
  loc := fun h ⟨e, o, e1, e2⟩ => ⟨e, o, by rw [h _ ((e _).mpr rfl)]; exact e1, e2⟩
  hd := fun ⟨e, _⟩ => (e _).mpr rfl
def AllT (K : PySem.W.Frag) (S : Hp) : List V → List TV → Prop := Paired fun v t => t.p K S v
theorem AllT.mono {K : PySem.W.Frag} {S S' : Hp} {vs : List V} {ts : List TV} (h : Same S S') (q : AllT K S vs ts) : AllT K S' vs ts :=
  Paired.imp q fun _ t z => t.mono h z
/-- a list, changed by its def alone -/
def fL (ts : List TV) : FV where
  q := fun K S _ o => ∃ vs, o = .lst vs ∧ vs.length ≤ sizeLine ∧ AllT K S vs ts
  mono := fun h ⟨vs, e, l, r⟩ => ⟨vs, e, l, r.mono h⟩
abbrev mL (ts : List TV) : MV := flat (fL ts)

/-- at a given address -/
def mA (b : Addr) (m : MV) : MV where
  q := fun K S H a f => a = b ∧ m.q K S H a f
  mono := fun h ⟨e, q⟩ => ⟨e, m.mono h q⟩
  loc := fun h ⟨e, q⟩ => ⟨e, m.loc h q⟩
  hd := fun ⟨_, q⟩ => m.hd q
def pin : Option Addr → MV → MV
  | none, m => m
  | some b, m => mA b m
theorem pin_q {o : Option Addr} {m : MV} {K : PySem.W.Frag} {S H : Hp} {a : Addr} {f : FP} : (pin o m).q K S H a f ↔ (∀ b, o = some b → a = b) ∧ m.q K S H a f := by
  cases o with
  | none => exact ⟨fun q => ⟨fun b e => (nomatch e), q⟩, fun q => q.2⟩
  | some b => exact ⟨fun q => ⟨fun c e => by cases e; exact q.1, q.2⟩, fun q => ⟨q.1 b rfl, q.2⟩⟩
def pinL : List (Option Addr) → List (Option MV) → List (Option MV)
  | o :: os, some m :: ms => some (pin o m) :: pinL os ms
  | _ :: os, none :: ms => none :: pinL os ms
  | [], ms => ms
  | _ :: _, [] => []
/-! ### states -/
structure Bs where
  H0 : Hp
  S0 : Hp
  L0 : List Addr
  C0 : FP
/-- the footprints of the cells -/
structure Own (K : PySem.W.Frag) (B : Bs) (S : Hp) (ls : List Addr) (Mu : List (Option MV)) (H : Hp) (F : Nat → FP) : Prop where
  dis : ∀ i j b, F i b → F j b → i = j
  lt : ∀ i b, F i b → i < Mu.length
  cell : ∀ (k : Nat) (m : MV), Mu[k]? = some (some m) → ∃ a, ls[k]? = some a ∧ m.q K S H a (F k)
  off : ∀ k b, F k b → S b = none
  inH : ∀ k b, F k b → ∃ o, H b = some o
  from_ : ∀ k b, F k b → B.H0 b = none ∨ B.C0 b
structure HS (K : PySem.W.Frag) (B : Bs) (S : Hp) (ls : List Addr) (Mu : List (Option MV)) (H : Hp) : Prop where
  ex : Same S H
  s0 : Same B.S0 S
  new : ∀ a o, S a = some o → B.S0 a = some o ∨ B.H0 a = none ∨ B.C0 a
  fr : ∀ a o, B.H0 a = some o → ¬ B.C0 a → H a = some o
  c0 : Pre B.L0 ls
  c1 : ∀ a, B.C0 a → ∃ o, H a = some o
  len : ls.length = Mu.length
  own : ∃ F, Own K B S ls Mu H F

section
variable {K : PySem.W.Frag} {B : Bs} {S S' H : Hp} {ls : List Addr} {Mu : List (Option MV)} {p a : Addr} {o o' : HO} {k : Nat} {m m' : MV} {fm fm' : FV}
theorem HS.fresh (h : HS K B S ls Mu H) (n : H p = none) : S p = none ∧ B.H0 p = none ∧ ¬ B.C0 p := by
  have nc : ¬ B.C0 p := fun z => by
    obtain ⟨o, e⟩ := h.c1 p z
    rw [n] at e
    cases e
  refine ⟨?_, ?_, nc⟩
  · cases e : S p with
    | none => rfl
    | some o =>
      rw [h.ex p o e] at n
      cases n
  · cases e : B.H0 p with
    | none => rfl
    | some o =>
      rw [h.fr p o e nc] at n
      cases n
theorem Own.free {F : Nat → FP} (h : Own K B S ls Mu H F) (n : H p = none) (k : Nat) : ¬ F k p := fun z => by
  obtain ⟨o, e⟩ := h.inH k p z
  rw [n] at e
  cases e
theorem same_new (n : S p = none) : Same S (upd S p o) := fun b u e => by
  rw [upd_ne (ne_of_none e n)]
  exact e
/-- a new thing that stands -/
theorem HS.laid (h : HS K B S ls Mu H) (n : H p = none) : Same S (upd S p o) ∧ HS K B (upd S p o) ls Mu (upd H p o) := by
  obtain ⟨n1, n3, nc⟩ := h.fresh n
  obtain ⟨F, w⟩ := h.own
  have s1 : Same S (upd S p o) := same_new n1
  have nF : ∀ k b, F k b → b ≠ p := fun k b z e => w.free n k (e ▸ z)
  refine ⟨s1, ⟨fun b u e => ?_, h.s0.trans s1, fun b u e => ?_, fun b u e hb => ?_, h.c0, fun b hb => ?_, h.len, F, w.dis, w.lt, fun k m e => ?_, fun k b z => ?_, fun k b z => ?_, w.from_⟩⟩
  · by_cases hb : b = p
    · subst hb
      rw [upd_same] at e ⊢
      exact e
    · rw [upd_ne hb] at e ⊢
      exact h.ex b u e
  · by_cases hb : b = p
    · subst hb
      exact .inr (.inl n3)
    · rw [upd_ne hb] at e
      exact h.new b u e
  · have hne : b ≠ p := fun z => by
      subst z
      rw [n3] at e
      cases e
    rw [upd_ne hne]
    exact h.fr b u e hb
  · obtain ⟨u, e⟩ := h.c1 b hb
    have hne : b ≠ p := fun z => nc (z ▸ hb)
    exact ⟨u, by rw [upd_ne hne]; exact e⟩
  · obtain ⟨a, e1, e4⟩ := w.cell k m e
    exact ⟨a, e1, m.mono s1 (m.loc (fun b z => upd_ne (nF k b z)) e4)⟩
  · rw [upd_ne (nF k b z)]
    exact w.off k b z
  · rw [upd_ne (nF k b z)]
    exact w.inH k b z
/-- a new thing that nobody holds yet -/
theorem HS.loose (h : HS K B S ls Mu H) (n : H p = none) : HS K B S ls Mu (upd H p o) := by
  obtain ⟨n1, n3, nc⟩ := h.fresh n
  obtain ⟨F, w⟩ := h.own
  have nF : ∀ k b, F k b → b ≠ p := fun k b z e => w.free n k (e ▸ z)
  refine ⟨fun b u e => ?_, h.s0, h.new, fun b u e hb => ?_, h.c0, fun b hb => ?_, h.len, F, w.dis, w.lt, fun k m e => ?_, w.off, fun k b z => ?_, w.from_⟩
  · rw [upd_ne (ne_of_none e n1)]
    exact h.ex b u e
  · rw [upd_ne (ne_of_none e n3)]
    exact h.fr b u e hb
  · obtain ⟨u, e⟩ := h.c1 b hb
    have hne : b ≠ p := fun z => nc (z ▸ hb)
    exact ⟨u, by rw [upd_ne hne]; exact e⟩
  · obtain ⟨a, e1, e4⟩ := w.cell k m e
    exact ⟨a, e1, m.loc (fun b z => upd_ne (nF k b z)) e4⟩
  · rw [upd_ne (nF k b z)]
    exact w.inH k b z
/-- a new cell over what nobody holds: its footprint g -/
theorem HS.push0 (h : HS K B S ls Mu H) {g : FP} {a : Addr} (hg : m.q K S H a g) (g1 : ∀ b, g b → S b = none) (g2 : ∀ b, g b → ∃ o, H b = some o) (g3 : ∀ b, g b → B.H0 b = none ∨ B.C0 b) (g4 : ∃ F, Own K B S ls Mu H F ∧ ∀ k b, F k b → ¬ g b) : HS K B S (ls ++ [a]) (Mu ++ [some m]) H := by
  obtain ⟨F, w, ap⟩ := g4
  refine ⟨h.ex, h.s0, h.new, h.fr, h.c0.app, h.c1, by simp [h.len], fun i => if i = Mu.length then g else F i, fun i j b hi hj => ?_, fun i b hi => ?_, fun k m' e => ?_, fun k b z => ?_, fun k b z => ?_, fun k b z => ?_⟩
  · by_cases ei : i = Mu.length
    · by_cases ej : j = Mu.length
      · rw [ei, ej]
      · rw [if_pos ei] at hi
        rw [if_neg ej] at hj
        exact absurd hi (ap j b hj)
    · rw [if_neg ei] at hi
      by_cases ej : j = Mu.length
      · rw [if_pos ej] at hj
        exact absurd hj (ap i b hi)
      · rw [if_neg ej] at hj
        exact w.dis i j b hi hj
  · rw [List.length_append, List.length_singleton]
    by_cases ei : i = Mu.length
    · omega
    · rw [if_neg ei] at hi
      exact Nat.lt_succ_of_lt (w.lt i b hi)
  · by_cases hk : k = Mu.length
    · subst hk
      rw [List.getElem?_append_right (Nat.le_refl _)] at e
      have : m = m' := by simpa using e
      subst this
      refine ⟨a, by rw [← h.len]; simp, ?_⟩
      rw [if_pos rfl]
      exact hg
    · have hlt : k < Mu.length := by
        have := (List.getElem?_eq_some_iff.mp e).1
        rw [List.length_append, List.length_singleton] at this
        omega
      rw [List.getElem?_append_left hlt] at e
      obtain ⟨a', e1, e2⟩ := w.cell k m' e
      refine ⟨a', (Pre.app (Pre.refl ls)).get e1, ?_⟩
      rw [if_neg hk]
      exact e2
  all_goals
    by_cases hk : k = Mu.length
    · rw [if_pos hk] at z
      first | exact g1 b z | exact g2 b z | exact g3 b z
    · rw [if_neg hk] at z
      first | exact w.off k b z | exact w.inH k b z | exact w.from_ k b z
/-- a new object becomes an own cell -/
theorem HS.push (h : HS K B S ls Mu H) (n : H p = none) (hq : fm.q K S p o) : HS K B S (ls ++ [p]) (Mu ++ [some (flat fm)]) (upd H p o) := by
  obtain ⟨n1, n3, nc⟩ := h.fresh n
  obtain ⟨F, w⟩ := h.own
  have nF : ∀ k b, F k b → b ≠ p := fun k b z e => w.free n k (e ▸ z)
  have h2 := h.loose (o := o) n
  refine h2.push0 (g := fun b => b = p) ⟨fun b => Iff.rfl, o, upd_same, hq⟩ (fun b e => ?_) (fun b e => ?_) (fun b e => ?_) ⟨F, ⟨w.dis, w.lt, fun k m e => ?_, w.off, fun k b z => ?_, w.from_⟩, nF⟩
  · subst e
    exact n1
  · subst e
    exact ⟨o, upd_same⟩
  · subst e
    exact .inl n3
  · obtain ⟨a, e1, e4⟩ := w.cell k m e
    exact ⟨a, e1, m.loc (fun b z => upd_ne (nF k b z)) e4⟩
  · rw [upd_ne (nF k b z)]
    exact w.inH k b z
/-- what a cell of one object holds -/
theorem HS.cell {c : Option Addr} (h : HS K B S ls Mu H) (e : Mu[k]? = some (some (pin c (flat fm)))) : ∃ a o, ls[k]? = some a ∧ S a = none ∧ H a = some o ∧ fm.q K S a o := by
  obtain ⟨F, w⟩ := h.own
  obtain ⟨a, e1, q⟩ := w.cell k _ e
  obtain ⟨_, ⟨ef, o, e2, e3⟩⟩ := pin_q.mp q
  exact ⟨a, o, e1, w.off k a ((ef a).mpr rfl), e2, e3⟩
theorem HS.root (h : HS K B S ls Mu H) (e : Mu[k]? = some (some m)) : ∃ a, ls[k]? = some a := by
  obtain ⟨F, w⟩ := h.own
  obtain ⟨a, e1, _⟩ := w.cell k _ e
  exact ⟨a, e1⟩
/-- an own cell is written, anywhere in its footprint; it may take what nobody held -/
theorem HS.writeG {H' : Hp} {a : Addr} {F : Nat → FP} {g : FP} (h : HS K B S ls Mu H) (w : Own K B S ls Mu H F) (hk : k < Mu.length) (ea : ls[k]? = some a) (hq : m'.q K S H' a g) (hH : ∀ b, ¬ g b → H' b = H b) (hg : ∀ b, g b → F k b ∨ H b = none) (gi : ∀ b, g b → ∃ o, H' b = some o)
    (lost : ∀ b, F k b → g b ∨ ∃ o, H' b = some o) :
    HS K B S ls (Mu.set k (some m')) H' := by
  have gn : ∀ b, g b → S b = none := fun b z => by
    rcases hg b z with q | q
    · exact w.off k b q
    · exact (h.fresh q).1
  have gf : ∀ b, g b → B.H0 b = none ∨ B.C0 b := fun b z => by
    rcases hg b z with q | q
    · exact w.from_ k b q
    · exact .inl (h.fresh q).2.1
  have ap : ∀ j b, j ≠ k → F j b → ¬ g b := fun j b hj z y => by
    rcases hg b y with q | q
    · exact hj (w.dis j k b z q)
    · exact w.free q j z
  refine ⟨fun b u e => ?_, h.s0, h.new, fun b u e hb => ?_, h.c0, fun b hb => ?_, by simp [h.len], fun i => if i = k then g else F i, fun i j b hi hj => ?_, fun i b hi => ?_, fun j m2 e => ?_, fun j b z => ?_, fun j b z => ?_, fun j b z => ?_⟩
  · rw [hH b fun z => by rw [gn b z] at e; cases e]
    exact h.ex b u e
  · rw [hH b fun z => ?_]
    · exact h.fr b u e hb
    · rcases gf b z with q | q
      · rw [q] at e
        cases e
      · exact hb q
  · by_cases z : g b
    · exact gi b z
    · rw [hH b z]
      exact h.c1 b hb
  · by_cases ei : i = k
    · by_cases ej : j = k
      · rw [ei, ej]
      · rw [if_pos ei] at hi
        rw [if_neg ej] at hj
        exact absurd hi (ap j b ej hj)
    · rw [if_neg ei] at hi
      by_cases ej : j = k
      · rw [if_pos ej] at hj
        exact absurd hj (ap i b ei hi)
      · rw [if_neg ej] at hj
        exact w.dis i j b hi hj
  · rw [List.length_set]
    by_cases ei : i = k
    · omega
    · rw [if_neg ei] at hi
      exact w.lt i b hi
  · by_cases hj : j = k
    · subst hj
      rw [List.getElem?_set_self hk] at e
      have : m' = m2 := by simpa using e
      subst this
      refine ⟨a, ea, ?_⟩
      rw [if_pos rfl]
      exact hq
    · rw [List.getElem?_set_ne (Ne.symm hj)] at e
      obtain ⟨c, f1, f2⟩ := w.cell j m2 e
      refine ⟨c, f1, ?_⟩
      rw [if_neg hj]
      exact m2.loc (fun b z => hH b (ap j b hj z)) f2
  · by_cases hj : j = k
    · rw [if_pos hj] at z
      exact gn b z
    · rw [if_neg hj] at z
      exact w.off j b z
  · by_cases hj : j = k
    · rw [if_pos hj] at z
      exact gi b z
    · rw [if_neg hj] at z
      rw [hH b (ap j b hj z)]
      exact w.inH j b z
  · by_cases hj : j = k
    · rw [if_pos hj] at z
      exact gf b z
    · rw [if_neg hj] at z
      exact w.from_ j b z
theorem HS.write {c : Option Addr} (h : HS K B S ls Mu H) (ek : Mu[k]? = some (some (pin c (flat fm)))) (ea : ls[k]? = some a) (hq : fm'.q K S a o') : HS K B S ls (Mu.set k (some (pin c (flat fm')))) (upd H a o') := by
  obtain ⟨F, w⟩ := h.own
  obtain ⟨a', e1, q⟩ := w.cell k _ ek
  obtain ⟨ep, ⟨ef, o, e2, e3⟩⟩ := pin_q.mp q
  rw [ea] at e1
  cases e1
  refine h.writeG w (List.getElem?_eq_some_iff.mp ek).1 ea (g := fun b => b = a) (pin_q.mpr ⟨ep, fun b => Iff.rfl, o', upd_same, hq⟩) (fun b z => upd_ne z) (fun b z => .inl ((ef b).mpr z)) (fun b z => ?_) (fun b z => .inl ((ef b).mp z))
  subst z
  exact ⟨o', upd_same⟩
open Classical in
/-- what stands when a footprint is laid down -/
noncomputable def lay (S H : Hp) (f : FP) : Hp := fun b => if f b then H b else S b
theorem lay_in {S H : Hp} {f : FP} {b : Addr} (h : f b) : lay S H f b = H b := by
  unfold lay
  rw [if_pos h]
theorem lay_out {S H : Hp} {f : FP} {b : Addr} (h : ¬ f b) : lay S H f b = S b := by
  unfold lay
  rw [if_neg h]
/-- an own cell stands from now on -/
theorem HS.freezeG {F : Nat → FP} (h : HS K B S ls Mu H) (w : Own K B S ls Mu H F) (k : Nat) : Same S (lay S H (F k)) ∧ HS K B (lay S H (F k)) ls (Mu.set k none) H := by
  have s1 : Same S (lay S H (F k)) := fun b u e => by
    rw [lay_out fun z => by rw [w.off k b z] at e; cases e]
    exact e
  refine ⟨s1, ⟨fun b u e => ?_, h.s0.trans s1, fun b u e => ?_, h.fr, h.c0, h.c1, by simp [h.len], fun i b => i ≠ k ∧ F i b, fun i j b hi hj => w.dis i j b hi.2 hj.2, fun i b hi => by rw [List.length_set]; exact w.lt i b hi.2, fun j m2 e => ?_, fun j b z => ?_, fun j b z => w.inH j b z.2, fun j b z => w.from_ j b z.2⟩⟩
  · by_cases z : F k b
    · rw [lay_in z] at e
      exact e
    · rw [lay_out z] at e
      exact h.ex b u e
  · by_cases z : F k b
    · exact .inr (w.from_ k b z)
    · rw [lay_out z] at e
      exact h.new b u e
  · by_cases hj : j = k
    · subst hj
      have hk : j < Mu.length := by
        have := (List.getElem?_eq_some_iff.mp e).1
        rwa [List.length_set] at this
      rw [List.getElem?_set_self hk] at e
      cases e
    · rw [List.getElem?_set_ne (Ne.symm hj)] at e
      obtain ⟨c, f1, f2⟩ := w.cell j m2 e
      have eF : (fun b => j ≠ k ∧ F j b) = F j := by
        funext b
        exact propext ⟨fun z => z.2, fun z => ⟨hj, z⟩⟩
      refine ⟨c, f1, ?_⟩
      rw [eF]
      exact m2.mono s1 f2
  · rw [lay_out fun y => z.1 (w.dis j k b z.2 y)]
    exact w.off j b z.2
/-- a content that may stand as a value -/
def Frz (m : MV) (t : TV) : Prop := ∀ {K S S' H a f}, m.q K S H a f → Same S S' → (∀ b, f b → S' b = H b) → t.p K S' (.ref a)
theorem HS.freeze {t : TV} (h : HS K B S ls Mu H) (ek : Mu[k]? = some (some m)) (fz : Frz m t) : ∃ a S', ls[k]? = some a ∧ Same S S' ∧ HS K B S' ls (Mu.set k none) H ∧ t.p K S' (.ref a) := by
  obtain ⟨F, w⟩ := h.own
  obtain ⟨a, e1, e2⟩ := w.cell k m ek
  obtain ⟨s1, h2⟩ := h.freezeG w k
  exact ⟨a, _, e1, s1, h2, fz e2 s1 fun b z => lay_in z⟩
/-- cells taken anew, each one once -/
theorem HS.reindex {ls' : List Addr} {Mu' : List (Option MV)} (φ : Nat → Nat) (h : HS K B S ls Mu H) (hc : Pre B.L0 ls') (hl : ls'.length = Mu'.length) (inj : ∀ i j, i < Mu'.length → j < Mu'.length → φ i = φ j → i = j)
    (hm : ∀ (i : Nat) (m : MV), Mu'[i]? = some (some m) → Mu[φ i]? = some (some m) ∧ ls'[i]? = ls[φ i]?) : HS K B S ls' Mu' H := by
  obtain ⟨F, w⟩ := h.own
  refine ⟨h.ex, h.s0, h.new, h.fr, hc, h.c1, hl, fun i b => i < Mu'.length ∧ F (φ i) b, fun i j b hi hj => inj i j hi.1 hj.1 (w.dis _ _ b hi.2 hj.2), fun i b hi => hi.1, fun k m e => ?_, fun k b z => w.off _ b z.2, fun k b z => w.inH _ b z.2, fun k b z => w.from_ _ b z.2⟩
  obtain ⟨e1, e2⟩ := hm k m e
  obtain ⟨a, f1, f2⟩ := w.cell _ m e1
  have hk := (List.getElem?_eq_some_iff.mp e).1
  have eF : (fun b => k < Mu'.length ∧ F (φ k) b) = F (φ k) := by
    funext b
    exact propext ⟨fun z => z.2, fun z => ⟨hk, z⟩⟩
  refine ⟨a, e2.trans f1, ?_⟩
  rw [eF]
  exact f2
/-- what is not asked any more of cells -/
theorem HS.forget {Mu' : List (Option MV)} (h : HS K B S ls Mu H) (hl : Mu'.length = Mu.length) (w : ∀ (k : Nat) (m : MV), Mu'[k]? = some (some m) → Mu[k]? = some (some m)) : HS K B S ls Mu' H :=
  h.reindex id h.c0 (h.len.trans hl.symm) (fun i j _ _ e => e) fun i m e => ⟨w i m e, rfl⟩
theorem HS.trunc {Mj : List (Option MV)} (h : HS K B S ls (Mu ++ Mj) H) (hc : B.L0.length ≤ Mu.length) : HS K B S (ls.take Mu.length) Mu H := by
  have hl : Mu.length ≤ ls.length := by
    rw [h.len, List.length_append]
    omega
  refine h.reindex id ?_ (by rw [List.length_take]; omega) (fun i j _ _ e => e) fun i m e => ?_
  · obtain ⟨m, e⟩ := h.c0
    exact ⟨m.take (Mu.length - B.L0.length), by rw [e, List.take_append, List.take_of_length_le hc]⟩
  · have hk : i < Mu.length := (List.getElem?_eq_some_iff.mp e).1
    exact ⟨by show (Mu ++ Mj)[i]? = _; rw [List.getElem?_append_left hk]; exact e, List.getElem?_take_of_lt hk⟩
/-- the last cell is dropped -/
theorem HS.cut {x : Option MV} {l : List Addr} (h : HS K B S (l ++ [a]) (Mu ++ [x]) H) (hc : Pre B.L0 l) : HS K B S l Mu H := by
  have hl : l.length = Mu.length := by
    have := h.len
    rw [List.length_append, List.length_append, List.length_singleton, List.length_singleton] at this
    omega
  refine h.reindex id hc hl (fun i j _ _ e => e) fun i m e => ?_
  have hk : i < Mu.length := (List.getElem?_eq_some_iff.mp e).1
  exact ⟨by show (Mu ++ [x])[i]? = _; rw [List.getElem?_append_left hk]; exact e, by show l[i]? = (l ++ [a])[i]?; rw [List.getElem?_append_left (by omega)]⟩
/-- an own cell is picked and put at the end of those that are told -/
theorem HS.pick {Mp Mj : List (Option MV)} (h : HS K B S ls (Mp ++ Mj) H) (hk : (Mp ++ Mj)[k]? = some (some m)) (hp : Mp.length ≤ k) (ea : ls[k]? = some a) (hc : B.L0.length ≤ Mp.length) : HS K B S (ls.take Mp.length ++ [a]) (Mp ++ [some m]) H := by
  have hl : Mp.length ≤ ls.length := by
    rw [h.len, List.length_append]
    omega
  refine h.reindex (fun i => if i = Mp.length then k else i) ?_ (by simp; omega) (fun i j hi hj e => ?_) fun i m' e => ?_
  · obtain ⟨m, e⟩ := h.c0
    exact Pre.app ⟨m.take (Mp.length - B.L0.length), by rw [e, List.take_append, List.take_of_length_le hc]⟩
  · rw [List.length_append, List.length_singleton] at hi hj
    try dsimp only at e
    split at e <;> split at e <;> omega
  · by_cases hi : i = Mp.length
    · subst hi
      rw [List.getElem?_append_right (Nat.le_refl _)] at e
      have : m = m' := by simpa using e
      subst this
      try dsimp only
      rw [if_pos rfl]
      refine ⟨hk, ?_⟩
      rw [List.getElem?_append_right (by rw [List.length_take]; omega), List.length_take, Nat.min_eq_left hl, Nat.sub_self, ea]
      rfl
    · have hlt : i < Mp.length := by
        have := (List.getElem?_eq_some_iff.mp e).1
        rw [List.length_append, List.length_singleton] at this
        omega
      try dsimp only
      rw [if_neg hi]
      rw [List.getElem?_append_left hlt] at e
      refine ⟨by rw [List.getElem?_append_left hlt]; exact e, ?_⟩
      rw [List.getElem?_append_left (by rw [List.length_take]; omega), List.getElem?_take_of_lt hlt]

/-! ### a part of the cells is handed on -/
/-- the state of a part, and how it comes back: sel tells which cells are handed on (by their place in the part) -/
theorem HS.part (h : HS K B S ls Mu H) (li : List Addr) (Mi : List (Option MV)) (pos : Nat → Option Nat) (hli : li.length = Mi.length)
    (p1 : ∀ k j, pos k = some j → j < Mi.length ∧ (∀ m, Mi[j]? = some (some m) → Mu[k]? = some (some m)) ∧ li[j]? = ls[k]?) (p2 : ∀ j, j < Mi.length → ∃ k, k < Mu.length ∧ pos k = some j) (p3 : ∀ k k' j, pos k = some j → pos k' = some j → k = k') :
    ∃ C : FP, HS K ⟨H, S, li, C⟩ S li Mi H ∧ ∀ S2 l2 M2 H2 ls' Mu' (φ : Nat → Option Nat), HS K ⟨H, S, li, C⟩ S2 l2 M2 H2 → Pre B.L0 ls' → ls'.length = Mu'.length →
      (∀ i j i', φ i = some j → φ i' = some j → i < Mu'.length → i' < Mu'.length → i = i') →
      (∀ i m, Mu'[i]? = some (some m) → (∃ j, φ i = some j ∧ M2[j]? = some (some m) ∧ ls'[i]? = l2[j]?) ∨ (φ i = none ∧ pos i = none ∧ Mu[i]? = some (some m) ∧ ls'[i]? = ls[i]?)) → HS K B S2 ls' Mu' H2 := by
  obtain ⟨F, w⟩ := h.own
  refine ⟨fun b => ∃ k j, pos k = some j ∧ F k b, ⟨h.ex, Same.refl _, fun a o e => .inl e, fun a o e _ => e, Pre.refl _, fun b ⟨k, j, _, z⟩ => w.inH k b z, hli,
    fun j b => ∃ k, pos k = some j ∧ F k b, fun i j b ⟨k, ek, hi⟩ ⟨k', ek', hj⟩ => ?_, fun j b ⟨k, ek, z⟩ => (p1 k j ek).1, fun j m e => ?_, fun j b ⟨k, ek, z⟩ => w.off k b z, fun j b ⟨k, ek, z⟩ => w.inH k b z, fun j b ⟨k, ek, z⟩ => .inr ⟨k, j, ek, z⟩⟩, ?_⟩
  · have e := w.dis k k' b hi hj
    subst e
    rw [ek] at ek'
    exact Option.some.inj ek'
  · have hj := (List.getElem?_eq_some_iff.mp e).1
    obtain ⟨k, hk, ek⟩ := p2 j hj
    obtain ⟨_, q2, q3⟩ := p1 k j ek
    obtain ⟨a, f1, f2⟩ := w.cell k m (q2 m e)
    have eF : (fun b => ∃ k', pos k' = some j ∧ F k' b) = F k := by
      funext b
      exact propext ⟨fun ⟨k', ek', z⟩ => by rw [p3 k k' j ek ek']; exact z, fun z => ⟨k, ek, z⟩⟩
    refine ⟨a, q3.trans f1, ?_⟩
    rw [eF]
    exact f2
  · intro S2 l2 M2 H2 ls' Mu' φ g hc hl inj hm
    obtain ⟨F2, w2⟩ := g.own
    have no : ∀ a, H a = none → B.H0 a = none := fun a e => (h.fresh e).2.1
    have nS : ∀ i b, pos i = none → F i b → S2 b = none ∧ H2 b = H b ∧ ∀ j, ¬ F2 j b := fun i b pi z => by
      have nC : ¬ ∃ k j, pos k = some j ∧ F k b := fun ⟨k, j, ek, y⟩ => by
        have := w.dis i k b z y
        subst this
        rw [pi] at ek
        cases ek
      obtain ⟨o, eo⟩ := w.inH i b z
      refine ⟨?_, (g.fr b o eo nC).trans eo.symm, fun j y => ?_⟩
      · cases q : S2 b with
        | none => rfl
        | some u =>
          rcases g.new b u q with y | y | y
          · have y : S b = some u := y
            rw [w.off i b z] at y
            cases y
          · have y : H b = none := y
            rw [eo] at y
            cases y
          · exact absurd y nC
      · rcases w2.from_ j b y with q | q
        · have q : H b = none := q
          rw [eo] at q
          cases q
        · exact nC q
    have cb : ∀ b, (∃ k j, pos k = some j ∧ F k b) → B.H0 b = none ∨ B.C0 b := fun b ⟨k, j, _, z⟩ => w.from_ k b z
    refine ⟨g.ex, h.s0.trans g.s0, fun a o e => ?_, fun a o e hn => ?_, hc, fun a ha => ?_, hl,
      fun i b => i < Mu'.length ∧ ((∃ j, φ i = some j ∧ F2 j b) ∨ (φ i = none ∧ pos i = none ∧ F i b)), fun i i' b hi hi' => ?_, fun i b hi => hi.1, fun i m e => ?_, fun i b hi => ?_, fun i b hi => ?_, fun i b hi => ?_⟩
    · rcases g.new a o e with q | q | q
      · exact h.new a o q
      · exact .inr (.inl (no a q))
      · exact .inr (cb a q)
    · refine g.fr a o (h.fr a o e hn) fun q => ?_
      rcases cb a q with z | z
      · rw [z] at e
        cases e
      · exact hn z
    · obtain ⟨o, e⟩ := h.c1 a ha
      by_cases hC : ∃ k j, pos k = some j ∧ F k a
      · exact g.c1 a hC
      · exact ⟨o, g.fr a o e hC⟩
    · obtain ⟨l1, q1⟩ := hi
      obtain ⟨l2', q2⟩ := hi'
      rcases q1 with ⟨j, e1, z1⟩ | ⟨e1, p1', z1⟩
      · rcases q2 with ⟨j', e2, z2⟩ | ⟨e2, p2', z2⟩
        · have := w2.dis j j' b z1 z2
          subst this
          exact inj i j i' e1 e2 l1 l2'
        · exact absurd z1 ((nS i' b p2' z2).2.2 j)
      · rcases q2 with ⟨j', e2, z2⟩ | ⟨e2, p2', z2⟩
        · exact absurd z2 ((nS i b p1' z1).2.2 j')
        · exact w.dis i i' b z1 z2
    · have hi := (List.getElem?_eq_some_iff.mp e).1
      rcases hm i m e with ⟨j, e1, e2, e3⟩ | ⟨e1, e2, e3, e4⟩
      · obtain ⟨a, f1, f2⟩ := w2.cell j m e2
        have eF : (fun b => i < Mu'.length ∧ ((∃ j, φ i = some j ∧ F2 j b) ∨ (φ i = none ∧ pos i = none ∧ F i b))) = F2 j := by
          funext b
          refine propext ⟨fun z => ?_, fun z => ⟨hi, .inl ⟨j, e1, z⟩⟩⟩
          rcases z.2 with ⟨j', y1, y2⟩ | ⟨y1, _⟩
          · rw [e1] at y1
            cases y1
            exact y2
          · rw [e1] at y1
            cases y1
        refine ⟨a, e3.trans f1, ?_⟩
        rw [eF]
        exact f2
      · obtain ⟨a, f1, f2⟩ := w.cell i m e3
        have eF : (fun b => i < Mu'.length ∧ ((∃ j, φ i = some j ∧ F2 j b) ∨ (φ i = none ∧ pos i = none ∧ F i b))) = F i := by
          funext b
          refine propext ⟨fun z => ?_, fun z => ⟨hi, .inr ⟨e1, e2, z⟩⟩⟩
          rcases z.2 with ⟨j', y1, y2⟩ | ⟨_, _, y2⟩
          · rw [e1] at y1
            cases y1
          · exact y2
        refine ⟨a, e4.trans f1, ?_⟩
        rw [eF]
        exact m.mono g.s0 (m.loc (fun b z => (nS i b e2 z).2.1) f2)
    · rcases hi.2 with ⟨j, _, z⟩ | ⟨_, p1', z⟩
      · exact w2.off j b z
      · exact (nS i b p1' z).1
    · rcases hi.2 with ⟨j, _, z⟩ | ⟨_, p1', z⟩
      · exact w2.inH j b z
      · rw [(nS i b p1' z).2.1]
        exact w.inH i b z
    · rcases hi.2 with ⟨j, _, z⟩ | ⟨_, p1', z⟩
      · rcases w2.from_ j b z with q | q
        · exact .inl (no b q)
        · exact cb b q
      · exact w.from_ i b z
end
def posN : List Nat → Nat → Option Nat
  | [], _ => none
  | k :: ks, i => if k = i then some 0 else (posN ks i).map (· + 1)
theorem posN_lt : ∀ {ks : List Nat} {i j : Nat}, posN ks i = some j → ks[j]? = some i
  | [], _, _, h => nomatch h
  | k :: ks, i, j, h => by
    unfold posN at h
    by_cases e : k = i
    · rw [if_pos e] at h
      cases h
      rw [e]
      rfl
    · rw [if_neg e] at h
      obtain ⟨j', h1, h2⟩ := Option.map_eq_some_iff.mp h
      subst h2
      simpa using posN_lt h1
theorem posN_at : ∀ {ks : List Nat} {i j : Nat}, ks.Nodup → ks[j]? = some i → posN ks i = some j
  | [], _, _, _, h => by simp at h
  | k :: ks, i, 0, _, h => by
    have : k = i := by simpa using h
    unfold posN
    rw [if_pos this]
  | k :: ks, i, j + 1, nd, h => by
    have h : ks[j]? = some i := by simpa using h
    rw [List.nodup_cons] at nd
    unfold posN
    rw [if_neg (fun e : k = i => nd.1 (by rw [e]; exact List.mem_of_getElem? h)), posN_at nd.2 h]
    rfl
theorem posN_none {ks : List Nat} {i : Nat} (h : posN ks i = none) : i ∉ ks := fun z => by
  induction ks with
  | nil => cases z
  | cons k ks ih =>
    unfold posN at h
    by_cases e : k = i
    · rw [if_pos e] at h
      cases h
    · rw [if_neg e] at h
      rcases List.mem_cons.mp z with z | z
      · exact e z.symm
      · exact ih (by simpa using h) z
def putAll : List (Option MV) → List Nat → List (Option MV) → List (Option MV)
  | Mu, k :: ks, m :: ms => putAll (Mu.set k m) ks ms
  | Mu, _, _ => Mu
theorem putAll_len : ∀ {ks : List Nat} {ms Mu : List (Option MV)}, (putAll Mu ks ms).length = Mu.length
  | [], _, _ => by unfold putAll; rfl
  | _ :: _, [], _ => by unfold putAll; rfl
  | k :: ks, m :: ms, Mu => by
    unfold putAll
    rw [putAll_len, List.length_set]
theorem putAll_none : ∀ {ks : List Nat} {ms Mu : List (Option MV)} {i : Nat}, i ∉ ks → (putAll Mu ks ms)[i]? = Mu[i]?
  | [], _, _, _, _ => by unfold putAll; rfl
  | _ :: _, [], _, _, _ => by unfold putAll; rfl
  | k :: ks, m :: ms, Mu, i, h => by
    unfold putAll
    rw [putAll_none fun z => h (List.mem_cons_of_mem _ z), List.getElem?_set_ne (fun z : k = i => h (by rw [z]; exact List.mem_cons_self ..))]
theorem putAll_at : ∀ {ks : List Nat} {ms Mu : List (Option MV)} {i j : Nat}, ks.Nodup → ms.length = ks.length → i < Mu.length → ks[j]? = some i → (putAll Mu ks ms)[i]? = ms[j]?
  | [], _, _, _, _, _, _, _, h => by simp at h
  | _ :: _, [], _, _, _, _, e, _, _ => nomatch e
  | k :: ks, m :: ms, Mu, i, 0, nd, e, hi, h => by
    have h : k = i := by simpa using h
    subst h
    rw [List.nodup_cons] at nd
    unfold putAll
    rw [putAll_none nd.1, List.getElem?_set_self hi]
    rfl
  | k :: ks, m :: ms, Mu, i, j + 1, nd, e, hi, h => by
    rw [List.nodup_cons] at nd
    unfold putAll
    rw [putAll_at (j := j) nd.2 (by simpa using e) (by rw [List.length_set]; exact hi) (by simpa using h)]
    rfl
def selN {α : Type} (d : α) (xs : List α) (ks : List Nat) : List α := ks.map fun k => (xs[k]?).getD d
section
variable {K : PySem.W.Frag} {B : Bs} {S H : Hp} {ls : List Addr} {Mu : List (Option MV)}
theorem selN_get {α : Type} {d : α} {xs : List α} {ks : List Nat} {j k : Nat} (h : ks[j]? = some k) : (selN d xs ks)[j]? = some ((xs[k]?).getD d) := by
  unfold selN
  rw [List.getElem?_map, h]
  rfl
/-- cells handed to a call, cells that come back beside them -/
theorem HS.call (h : HS K B S ls Mu H) (ks : List Nat) (nd : ks.Nodup) (lt : ∀ k ∈ ks, k < Mu.length) :
    ∃ C : FP, HS K ⟨H, S, selN 0 ls ks, C⟩ S (selN 0 ls ks) (selN none Mu ks) H ∧ ∀ S2 l2 M2 Mx H2, HS K ⟨H, S, selN 0 ls ks, C⟩ S2 l2 (M2 ++ Mx) H2 → M2.length = ks.length → HS K B S2 (ls ++ l2.drop ks.length) (putAll Mu ks M2 ++ Mx) H2 := by
  have p1 : ∀ k j, posN ks k = some j → j < (selN none Mu ks).length ∧ (∀ m, (selN none Mu ks)[j]? = some (some m) → Mu[k]? = some (some m)) ∧ (selN 0 ls ks)[j]? = ls[k]? := fun k j e => by
    have b1 := posN_lt e
    have jl := (List.getElem?_eq_some_iff.mp b1).1
    have kl := lt k (List.mem_of_getElem? b1)
    refine ⟨by simp [selN]; exact jl, fun m em => ?_, ?_⟩
    · rw [selN_get b1, List.getElem?_eq_getElem kl] at em
      rw [List.getElem?_eq_getElem kl]
      exact em
    · rw [selN_get b1, List.getElem?_eq_getElem (by rw [h.len]; exact kl)]
      rfl
  have p2 : ∀ j, j < (selN none Mu ks).length → ∃ k, k < Mu.length ∧ posN ks k = some j := fun j hj => by
    have jl : j < ks.length := by simpa [selN] using hj
    exact ⟨ks[j], lt _ (List.getElem_mem jl), posN_at nd (List.getElem?_eq_getElem jl)⟩
  have p3 : ∀ k k' j, posN ks k = some j → posN ks k' = some j → k = k' := fun k k' j e e' => by
    have b1 := posN_lt e
    have b2 := posN_lt e'
    rw [b1] at b2
    exact Option.some.inj b2
  obtain ⟨C, h1, h2⟩ := h.part (selN 0 ls ks) (selN none Mu ks) (posN ks) (by simp [selN]) p1 p2 p3
  refine ⟨C, h1, fun S2 l2 M2 Mx H2 g hl => h2 S2 l2 (M2 ++ Mx) H2 _ _ (fun i => if i < Mu.length then posN ks i else some (ks.length + (i - Mu.length))) g h.c0.app ?_ (fun i j i' e e' hi hi' => ?_) fun i m e => ?_⟩
  · have e := g.len
    rw [List.length_append] at e
    rw [List.length_append, List.length_append, List.length_drop, putAll_len, h.len]
    omega
  · rw [List.length_append, putAll_len] at hi hi'
    try dsimp only at e e'
    by_cases a1 : i < Mu.length
    · rw [if_pos a1] at e
      by_cases a2 : i' < Mu.length
      · rw [if_pos a2] at e'
        have b1 := posN_lt e
        have b2 := posN_lt e'
        rw [b1] at b2
        exact Option.some.inj b2
      · rw [if_neg a2] at e'
        have b1 := (List.getElem?_eq_some_iff.mp (posN_lt e)).1
        have := Option.some.inj e'
        omega
    · rw [if_neg a1] at e
      by_cases a2 : i' < Mu.length
      · rw [if_pos a2] at e'
        have b1 := (List.getElem?_eq_some_iff.mp (posN_lt e')).1
        have := Option.some.inj e
        omega
      · rw [if_neg a2] at e'
        have := Option.some.inj e
        have := Option.some.inj e'
        omega
  · try dsimp only
    by_cases a1 : i < Mu.length
    · rw [List.getElem?_append_left (by rw [putAll_len]; exact a1)] at e
      rw [if_pos a1, List.getElem?_append_left (by rw [h.len]; exact a1)]
      cases q : posN ks i with
      | none =>
        rw [putAll_none (posN_none q)] at e
        exact .inr ⟨rfl, rfl, e, rfl⟩
      | some j =>
        have b1 := posN_lt q
        have jl := (List.getElem?_eq_some_iff.mp b1).1
        rw [putAll_at nd hl a1 b1] at e
        refine .inl ⟨j, rfl, by rw [List.getElem?_append_left (by omega)]; exact e, ?_⟩
        have := g.c0.get (selN_get (d := 0) (xs := ls) b1)
        rw [this, List.getElem?_eq_getElem (by rw [h.len]; exact a1)]
        rfl
    · rw [List.getElem?_append_right (by rw [putAll_len]; omega), putAll_len] at e
      rw [if_neg a1]
      refine .inl ⟨_, rfl, ?_, ?_⟩
      · rw [List.getElem?_append_right (by omega), hl, Nat.add_sub_cancel_left]
        exact e
      · rw [List.getElem?_append_right (by rw [h.len]; omega), List.getElem?_drop, h.len]
/-- the first cells alone; the others are as they were -/
theorem HS.frame {hid : List Addr} {Hid : List (Option MV)} (h : HS K B S (ls ++ hid) (Mu ++ Hid) H) (hl : ls.length = Mu.length) (hc : Pre B.L0 ls) :
    ∃ C : FP, HS K ⟨H, S, ls, C⟩ S ls Mu H ∧ ∀ S2 M2 H2, HS K ⟨H, S, ls, C⟩ S2 ls M2 H2 → HS K B S2 (ls ++ hid) (M2 ++ Hid) H2 := by
  have hl2 : hid.length = Hid.length := by
    have := h.len
    rw [List.length_append, List.length_append] at this
    omega
  have p1 : ∀ k j, (if k < Mu.length then some k else none) = some j → j < Mu.length ∧ (∀ m, Mu[j]? = some (some m) → (Mu ++ Hid)[k]? = some (some m)) ∧ ls[j]? = (ls ++ hid)[k]? := fun k j e => by
    split at e
    · rename_i hk
      cases e
      exact ⟨hk, fun m em => by rw [List.getElem?_append_left hk]; exact em, (List.getElem?_append_left (by omega)).symm⟩
    · cases e
  have p3 : ∀ k k' j, (if k < Mu.length then some k else none) = some j → (if k' < Mu.length then some k' else none) = some j → k = k' := fun k k' j e e' => by
    split at e <;> split at e' <;> simp at e e'
    omega
  obtain ⟨C, h1, h2⟩ := h.part ls Mu (fun k => if k < Mu.length then some k else none) hl p1 (fun j hj => ⟨j, by rw [List.length_append]; omega, if_pos hj⟩) p3
  refine ⟨C, h1, fun S2 M2 H2 g => ?_⟩
  have gl := g.len
  refine h2 S2 ls M2 H2 _ _ (fun k => if k < Mu.length then some k else none) g hc.app (by rw [List.length_append, List.length_append]; omega) (fun i j i' e e' _ _ => ?_) fun i m e => ?_
  · try dsimp only at e e'
    split at e <;> split at e' <;> simp at e e'
    omega
  · try dsimp only
    by_cases a1 : i < Mu.length
    · rw [if_pos a1]
      rw [List.getElem?_append_left (by omega)] at e
      exact .inl ⟨i, rfl, e, List.getElem?_append_left (by omega)⟩
    · rw [if_neg a1]
      rw [List.getElem?_append_right (by omega)] at e
      refine .inr ⟨rfl, rfl, ?_, rfl⟩
      rw [List.getElem?_append_right (by omega), ← hl, gl]
      exact e
end

/-! ### slots -/
abbrev Gm := List (Option SV)
abbrev Mm := List (Option MV)
def Sl (K : PySem.W.Frag) (S : Hp) (ls : List Addr) (σ : St) (G : Gm) : Prop :=
  σ.length = G.length ∧ ∀ (i : Nat) (s : SV), G[i]? = some (some s) → ∃ v, σ[i]? = some (some v) ∧ s.p K S ls v
section
variable {K : PySem.W.Frag} {S S' H : Hp} {ls ls' : List Addr} {σ : St} {G : Gm} {i : Nat} {v : V} {s : SV}
theorem Sl.mono (h : Same S S') (g : Pre ls ls') (q : Sl K S ls σ G) : Sl K S' ls' σ G :=
  ⟨q.1, fun i s e => by
    obtain ⟨v, e1, e2⟩ := q.2 i s e
    exact ⟨v, e1, SV.mono h g e2⟩⟩
theorem Sl.set (q : Sl K S ls σ G) (r : s.p K S ls v) : Sl K S ls (σ.set i (some v)) (G.set i (some s)) :=
  ⟨by simp [q.1], fun j s' e => by
    by_cases hj : i = j
    · subst hj
      by_cases hi : i < G.length
      · rw [List.getElem?_set_self hi] at e
        cases e
        exact ⟨v, by rw [List.getElem?_set_self (by rw [q.1]; exact hi)], r⟩
      · rw [List.getElem?_eq_none (by simp; omega)] at e
        cases e
    · rw [List.getElem?_set_ne hj] at e ⊢
      exact q.2 j s' e⟩
theorem Sl.drop {G' : Gm} (q : Sl K S ls σ G) (hl : G'.length = G.length) (w : ∀ (i : Nat) (s : SV), G'[i]? = some (some s) → G[i]? = some (some s)) : Sl K S ls σ G' :=
  ⟨q.1.trans hl.symm, fun i s e => q.2 i s (w i s e)⟩
end

/-! ### plain kinds -/
def rInt : Rep Int := ⟨fun _ _ v a => v = .int a, fun _ q => q⟩
def rBool : Rep Bool := ⟨fun _ _ v a => v = .bl a, fun _ q => q⟩
def rStr : Rep Str := ⟨fun _ _ v a => v = .str a, fun _ q => q⟩
def rNone : Rep Unit := ⟨fun _ _ v _ => v = .non, fun _ q => q⟩
abbrev vI (a : Int) : SV := .val (tv rInt a)
abbrev vB (a : Bool) : SV := .val (tv rBool a)
abbrev vS (a : Str) : SV := .val (tv rStr a)
abbrev vN : SV := .val (tv rNone ())

/-! ### what an expression's reading comes to -/
/-- behind it: v as s says -/
def Aft (K : PySem.W.Frag) (B : Bs) (S : Hp) (ls : List Addr) (Mu : Mm) (s : SV) (Q : VK) : Prop :=
  ∀ v S' ls' H', Same S S' → Pre ls ls' → HS K B S' ls' Mu H' → s.p K S' ls' v → Q v H'
theorem Aft.mono {K : PySem.W.Frag} {B : Bs} {S S1 : Hp} {ls ls1 : List Addr} {Mu : Mm} {s : SV} {Q : VK} (h : Same S S1) (g : Pre ls ls1) (q : Aft K B S ls Mu s Q) : Aft K B S1 ls1 Mu s Q :=
  fun v S' ls' H' a b c d => q v S' ls' H' (h.trans a) (g.trans b) c d
def EvV (K : PySem.W.Frag) (te : TE) (G : Gm) (Mu Mu' : Mm) (s : SV) : Prop :=
  ∀ B σ S ls H Q, Sl K S ls σ G → HS K B S ls Mu H → Aft K B S ls Mu' s Q → te σ H Q
/-- a new object: the last cell -/
abbrev EvF (K : PySem.W.Frag) (te : TE) (G : Gm) (Mu Mu' : Mm) (m : MV) : Prop := EvV K te G Mu (Mu' ++ [some m]) (.cell Mu'.length)
def AftT (K : PySem.W.Frag) (B : Bs) (S : Hp) (ls : List Addr) (Mu : Mm) (b : Bool) (Q : Bool → Hp → Prop) : Prop :=
  ∀ S' ls' H', Same S S' → Pre ls ls' → HS K B S' ls' Mu H' → Q b H'
def EvT (K : PySem.W.Frag) (tt : TT) (G : Gm) (Mu Mu' : Mm) (b : Bool) : Prop :=
  ∀ B σ S ls H Q, Sl K S ls σ G → HS K B S ls Mu H → AftT K B S ls Mu' b Q → tt σ H Q
def AftA (K : PySem.W.Frag) (B : Bs) (S : Hp) (ls : List Addr) (Mu : Mm) (ss : List SV) (Q : List V → Hp → Prop) : Prop :=
  ∀ vs S' ls' H', Same S S' → Pre ls ls' → HS K B S' ls' Mu H' → AllS K S' ls' vs ss → Q vs H'
def EvA (K : PySem.W.Frag) (ta : TA) (G : Gm) (Mu Mu' : Mm) (ss : List SV) : Prop :=
  ∀ B σ S ls H Q, Sl K S ls σ G → HS K B S ls Mu H → AftA K B S ls Mu' ss Q → ta σ H Q
theorem AftT.mono {K : PySem.W.Frag} {B : Bs} {S S1 : Hp} {ls ls1 : List Addr} {Mu : Mm} {b : Bool} {Q : Bool → Hp → Prop} (h : Same S S1) (g : Pre ls ls1) (q : AftT K B S ls Mu b Q) : AftT K B S1 ls1 Mu b Q :=
  fun S' ls' H' a b c => q S' ls' H' (h.trans a) (g.trans b) c
theorem AftA.mono {K : PySem.W.Frag} {B : Bs} {S S1 : Hp} {ls ls1 : List Addr} {Mu : Mm} {ss : List SV} {Q : List V → Hp → Prop} (h : Same S S1) (g : Pre ls ls1) (q : AftA K B S ls Mu ss Q) : AftA K B S1 ls1 Mu ss Q :=
  fun v S' ls' H' a b c d => q v S' ls' H' (h.trans a) (g.trans b) c d
/-- by values: two places, one, many; a truth -/
def Rv (K : PySem.W.Frag) (r : R2) (Mu Mu' : Mm) (sa sb s : SV) : Prop :=
  ∀ B S ls H x y Q, HS K B S ls Mu H → sa.p K S ls x → sb.p K S ls y → Aft K B S ls Mu' s Q → r x y H Q
def Ru (K : PySem.W.Frag) (r : V → Hp → VK → Prop) (Mu Mu' : Mm) (sa s : SV) : Prop :=
  ∀ B S ls H x Q, HS K B S ls Mu H → sa.p K S ls x → Aft K B S ls Mu' s Q → r x H Q
def Rc (K : PySem.W.Frag) (r : List V → Hp → VK → Prop) (Mu Mu' : Mm) (ss : List SV) (s : SV) : Prop :=
  ∀ B S ls H vs Q, HS K B S ls Mu H → AllS K S ls vs ss → Aft K B S ls Mu' s Q → r vs H Q
def Rm (K : PySem.W.Frag) (r : V → List V → Hp → VK → Prop) (Mu Mu' : Mm) (so : SV) (ss : List SV) (s : SV) : Prop :=
  ∀ B S ls H x vs Q, HS K B S ls Mu H → so.p K S ls x → AllS K S ls vs ss → Aft K B S ls Mu' s Q → r x vs H Q
abbrev RvF (K : PySem.W.Frag) (r : R2) (Mu Mu' : Mm) (sa sb : SV) (m : MV) : Prop := Rv K r Mu (Mu' ++ [some m]) sa sb (.cell Mu'.length)
abbrev RcF (K : PySem.W.Frag) (r : List V → Hp → VK → Prop) (Mu Mu' : Mm) (ss : List SV) (m : MV) : Prop := Rc K r Mu (Mu' ++ [some m]) ss (.cell Mu'.length)
abbrev RmF (K : PySem.W.Frag) (r : V → List V → Hp → VK → Prop) (Mu Mu' : Mm) (so : SV) (ss : List SV) (m : MV) : Prop := Rm K r Mu (Mu' ++ [some m]) so ss (.cell Mu'.length)
/-- behind a new object of one kind -/
theorem Aft.new {K : PySem.W.Frag} {B : Bs} {S H : Hp} {ls : List Addr} {Mu : Mm} {fm : FV} {p : Addr} {o : HO} {Q : VK} (q : Aft K B S ls (Mu ++ [some (flat fm)]) (.cell Mu.length) Q) (h : HS K B S ls Mu H) (n : H p = none) (hq : fm.q K S p o) : Q (.ref p) (upd H p o) :=
  q _ S (ls ++ [p]) _ (Same.refl _) ⟨[p], rfl⟩ (h.push n hq) ⟨p, by rw [← h.len]; simp, rfl⟩
section
variable {K : PySem.W.Frag} {G : Gm} {Mu Mu1 Mu2 Mu3 : Mm} {ta tb te : TE} {tt tu : TT} {sa sb s : SV} {v : V} {i : Nat}
theorem ev_var (h : G[i]? = some (some s)) : EvV K (tVar i) G Mu Mu s := fun B σ S ls H Q sl hs q => by
  obtain ⟨v, e, r⟩ := sl.2 i s h
  exact ⟨v, e, q v S ls H (Same.refl _) (Pre.refl _) hs r⟩
theorem ev_c (h : ∀ S ls, s.p K S ls v) : EvV K (tC v) G Mu Mu s := fun B σ S ls H Q sl hs q => q v S ls H (Same.refl _) (Pre.refl _) hs (h _ _)
theorem ev_op {r : R2} (ha : EvV K ta G Mu Mu1 sa) (hb : EvV K tb G Mu1 Mu2 sb) (hr : Rv K r Mu2 Mu3 sa sb s) : EvV K (tOp r ta tb) G Mu Mu3 s := fun B σ S ls H Q sl hs q =>
  ha B σ S ls H _ sl hs fun x S1 l1 H1 a1 b1 c1 d1 => hb B σ S1 l1 H1 _ (sl.mono a1 b1) c1 fun y S2 l2 H2 a2 b2 c2 d2 =>
    hr B S2 l2 H2 x y Q c2 (SV.mono a2 b2 d1) d2 (q.mono (a1.trans a2) (b1.trans b2))
theorem ev_un {r : V → Hp → VK → Prop} (ha : EvV K ta G Mu Mu1 sa) (hr : Ru K r Mu1 Mu2 sa s) : EvV K (tUn r ta) G Mu Mu2 s := fun B σ S ls H Q sl hs q =>
  ha B σ S ls H _ sl hs fun x S1 l1 H1 a1 b1 c1 d1 => hr B S1 l1 H1 x Q c1 d1 (q.mono a1 b1)
theorem ea_nil : EvA K tNil G Mu Mu [] := fun B σ S ls H Q sl hs q => q [] S ls H (Same.refl _) (Pre.refl _) hs .nil
theorem ea_cons {tr : TA} {ss : List SV} (h : EvV K te G Mu Mu1 s) (hr : EvA K tr G Mu1 Mu2 ss) : EvA K (tCons te tr) G Mu Mu2 (s :: ss) := fun B σ S ls H Q sl hs q =>
  h B σ S ls H _ sl hs fun x S1 l1 H1 a1 b1 c1 d1 => hr B σ S1 l1 H1 _ (sl.mono a1 b1) c1 fun vs S2 l2 H2 a2 b2 c2 d2 =>
    q (x :: vs) S2 l2 H2 (a1.trans a2) (b1.trans b2) c2 (.cons (SV.mono a2 b2 d1) d2)
theorem ev_cb {r : List V → Hp → VK → Prop} {ta : TA} {ss : List SV} (h : EvA K ta G Mu Mu1 ss) (hr : Rc K r Mu1 Mu2 ss s) : EvV K (tCB r ta) G Mu Mu2 s := fun B σ S ls H Q sl hs q =>
  h B σ S ls H _ sl hs fun vs S1 l1 H1 a1 b1 c1 d1 => hr B S1 l1 H1 vs Q c1 d1 (q.mono a1 b1)
/-- tests -/
theorem et_test {t : TE} {b : Bool} (h : EvV K t G Mu Mu1 (vB b)) : EvT K (tTest t) G Mu Mu1 b := fun B σ S ls H Q sl hs q =>
  h B σ S ls H _ sl hs fun x S1 l1 H1 a1 b1 c1 d1 => ⟨b, d1, q S1 l1 H1 a1 b1 c1⟩
theorem et_B {t : TE} {b : Bool} (h : EvV K t G Mu Mu1 (vB b)) : EvT K (tB t) G Mu Mu1 b := fun B σ S ls H Q sl hs q =>
  h B σ S ls H _ sl hs fun x S1 l1 H1 a1 b1 c1 d1 => ⟨b, d1, q S1 l1 H1 a1 b1 c1⟩
theorem et_not {b : Bool} (h : EvT K tt G Mu Mu1 b) : EvT K (tNot tt) G Mu Mu1 (!b) := fun B σ S ls H Q sl hs q =>
  h B σ S ls H _ sl hs fun S1 l1 H1 a1 b1 c1 => q S1 l1 H1 a1 b1 c1
/-- and, or: the second one is asked only then -/
theorem et_and {a b : Bool} {Mu3 : Mm} (h1 : EvT K tt G Mu Mu1 a) (h2 : a = true → EvT K tu G Mu1 Mu2 b) (e2 : a = true → Mu2 = Mu3) (e1 : a = false → Mu1 = Mu3) : EvT K (tAnd tt tu) G Mu Mu3 (a && b) := fun B σ S ls H Q sl hs q =>
  h1 B σ S ls H _ sl hs fun S1 l1 H1 a1 b1 c1 => by
    cases a with
    | true =>
      show tu σ H1 Q
      have e := e2 rfl
      subst e
      exact h2 rfl B σ S1 l1 H1 Q (sl.mono a1 b1) c1 (q.mono a1 b1)
    | false =>
      show Q false H1
      have e := e1 rfl
      subst e
      exact q S1 l1 H1 a1 b1 c1
theorem et_or {a b : Bool} {Mu3 : Mm} (h1 : EvT K tt G Mu Mu1 a) (h2 : a = false → EvT K tu G Mu1 Mu2 b) (e2 : a = false → Mu2 = Mu3) (e1 : a = true → Mu1 = Mu3) : EvT K (tOr tt tu) G Mu Mu3 (a || b) := fun B σ S ls H Q sl hs q =>
  h1 B σ S ls H _ sl hs fun S1 l1 H1 a1 b1 c1 => by
    cases a with
    | false =>
      show tu σ H1 Q
      have e := e2 rfl
      subst e
      exact h2 rfl B σ S1 l1 H1 Q (sl.mono a1 b1) c1 (q.mono a1 b1)
    | true =>
      show Q true H1
      have e := e1 rfl
      subst e
      exact q S1 l1 H1 a1 b1 c1
theorem ev_ifM {a : Bool} (h : EvT K tt G Mu Mu1 a) (h1 : a = true → EvV K ta G Mu1 Mu2 s) (h2 : a = false → EvV K tb G Mu1 Mu2 s) : EvV K (tIf tt ta tb) G Mu Mu2 s := fun B σ S ls H Q sl hs q =>
  h B σ S ls H _ sl hs fun S1 l1 H1 a1 b1 c1 => by
    cases a with
    | true => exact h1 rfl B σ S1 l1 H1 Q (sl.mono a1 b1) c1 (q.mono a1 b1)
    | false => exact h2 rfl B σ S1 l1 H1 Q (sl.mono a1 b1) c1 (q.mono a1 b1)
end
end TL

/-! TL, second part: sequences, numbers, blocks, loops, promises. -/
namespace TL
open PySem L2

/-! ### sequences -/
theorem same_seqT {K : PySem.W.Frag} {H H' : Hp} {a : Addr} {xs : List V} (e : Same H H') (h : SqT K H a xs) : SqT K H' a xs := by
  rcases h with (h | ⟨o, h⟩) | h
  · exact .inl (.inl (e _ _ h))
  · exact .inl (.inr ⟨o, e _ _ h⟩)
  · exact .inr h
/-- l: a list that is tracked; q: a list that may be read; t: a tuple -/
inductive Knd where
  | l | q | t | c
def SqK (K : PySem.W.Frag) (H : Hp) (p : Addr) (vs : List V) (k : Knd) : Prop := match k with
  | .l => H p = some (.lst vs)
  | .q => SqL K H p vs
  | .t => H p = some (.tup vs)
  | .c => SqT K H p vs
theorem SqK.same {K : PySem.W.Frag} {H H' : Hp} {p : Addr} {vs : List V} {k : Knd} (e : Same H H') (h : SqK K H p vs k) : SqK K H' p vs k := by
  cases k with
  | l => exact e p _ (show H p = some (.lst vs) from h)
  | q => exact Same.seq e (show SqL K H p vs from h)
  | t => exact e p _ (show H p = some (.tup vs) from h)
  | c => exact same_seqT e (show SqT K H p vs from h)
def Knd.isL (k : Knd) : Bool := match k with
  | .t => false
  | .c => false
  | _ => true
theorem SqK.seq {K : PySem.W.Frag} {H : Hp} {p : Addr} {vs : List V} {k : Knd} (h : SqK K H p vs k) (e : k.isL = true) : SqL K H p vs := by
  cases k with
  | l => exact SqL.of (show H p = some (.lst vs) from h)
  | q => exact h
  | t => cases e
  | c => cases e
theorem SqK.both {K : PySem.W.Frag} {H : Hp} {p : Addr} {vs : List V} {k : Knd} (h : SqK K H p vs k) : SqL K H p vs ∨ SqT K H p vs := by
  cases k with
  | l => exact .inl (SqL.of (show H p = some (.lst vs) from h))
  | q => exact .inl h
  | t => exact .inr (SqT.of (show H p = some (.tup vs) from h))
  | c => exact .inr h
theorem SqK.tup {K : PySem.W.Frag} {H : Hp} {p : Addr} {vs : List V} {k : Knd} (h : SqK K H p vs k) (e : k.isL = false) : SqT K H p vs := by
  cases k with
  | l => cases e
  | q => cases e
  | t => exact SqT.of (show H p = some (.tup vs) from h)
  | c => exact h
def sqT (k : Knd) (ts : List TV) : TV := ⟨fun K S v => ∃ p vs, v = .ref p ∧ SqK K S p vs k ∧ vs.length ≤ sizeLine ∧ AllT K S vs ts,
  fun h ⟨p, vs, e, q, l, r⟩ => ⟨p, vs, e, SqK.same h q, l, r.mono h⟩⟩
abbrev lstT : List TV → TV := sqT .l
abbrev tupT : List TV → TV := sqT .t
def rSq {α : Type} (k : Knd) (R : Rep α) : Rep (List α) := ⟨fun K S v xs => (sqT k (xs.map (tv R))).p K S v, fun h q => (sqT k _).mono h q⟩
abbrev rList {α : Type} (R : Rep α) : Rep (List α) := rSq .l R
abbrev rTup {α : Type} (R : Rep α) : Rep (List α) := rSq .t R
def rP1 {α : Type} (A : Rep α) : Rep α := ⟨fun K S v x => (tupT [tv A x]).p K S v, fun h q => (sqT .t _).mono h q⟩
def rP2 {α β : Type} (A : Rep α) (B : Rep β) : Rep (α × β) := ⟨fun K S v x => (tupT [tv A x.1, tv B x.2]).p K S v, fun h q => (sqT .t _).mono h q⟩
def rP3 {α β γ : Type} (A : Rep α) (B : Rep β) (C : Rep γ) : Rep (α × β × γ) := ⟨fun K S v x => (tupT [tv A x.1, tv B x.2.1, tv C x.2.2]).p K S v, fun h q => (sqT .t _).mono h q⟩
def rP4 {α β γ δ : Type} (A : Rep α) (B : Rep β) (C : Rep γ) (D : Rep δ) : Rep (α × β × γ × δ) := ⟨fun K S v x => (tupT [tv A x.1, tv B x.2.1, tv C x.2.2.1, tv D x.2.2.2]).p K S v, fun h q => (sqT .t _).mono h q⟩
def IsSq (K : PySem.W.Frag) (Mu : Mm) (s : SV) (k : Knd) (ts : List TV) : Prop :=
  ∀ B S ls H v, HS K B S ls Mu H → s.p K S ls v → ∃ p vs, v = .ref p ∧ SqK K H p vs k ∧ vs.length ≤ sizeLine ∧ AllT K S vs ts
section
variable {K : PySem.W.Frag} {Mu : Mm} {ts us : List TV} {k : Knd} {α β γ δ : Type} {R : Rep α} {j : Nat}
theorem is_sq : IsSq K Mu (.val (sqT k ts)) k ts := fun B S ls H v hs ⟨p, vs, e, q, l, r⟩ => ⟨p, vs, e, SqK.same hs.ex q, l, r⟩
theorem is_seq {xs : List α} : IsSq K Mu (.val (tv (rSq k R) xs)) k (xs.map (tv R)) := is_sq
theorem is_cell (oc : Option Addr) (h : Mu[j]? = some (some (pin oc (mL ts)))) : IsSq K Mu (.cell j) .l ts := fun B S ls H v hs ⟨a, e, ev⟩ => by
  obtain ⟨a', o, e1, e2, e3, ⟨vs, eo, l, r⟩⟩ := hs.cell h
  rw [e] at e1
  cases e1
  subst eo
  exact ⟨a, vs, ev, e3, l, r⟩
theorem is_p1 {A : Rep α} {x : α} : IsSq K Mu (.val (tv (rP1 A) x)) .t [tv A x] := is_sq
theorem is_p2 {A : Rep α} {B : Rep β} {x : α × β} : IsSq K Mu (.val (tv (rP2 A B) x)) .t [tv A x.1, tv B x.2] := is_sq
theorem is_p3 {A : Rep α} {B : Rep β} {C : Rep γ} {x : α × β × γ} : IsSq K Mu (.val (tv (rP3 A B C) x)) .t [tv A x.1, tv B x.2.1, tv C x.2.2] := is_sq
theorem is_p4 {A : Rep α} {B : Rep β} {C : Rep γ} {D : Rep δ} {x : α × β × γ × δ} : IsSq K Mu (.val (tv (rP4 A B C D) x)) .t [tv A x.1, tv B x.2.1, tv C x.2.2.1, tv D x.2.2.2] := is_sq
end
/-- x[i] -/
theorem atQ_eq {α : Type} {xs : List α} {i : Int} : atQ xs i = atI xs i := rfl
theorem getI_ok {α : Type} {xs : List α} {i : Int} {x : α} (h : getI xs i = .ok x) : atI xs i = some x := by
  unfold getI at h
  split at h
  · rename_i y e
    cases h
    exact e
  · cases h
theorem at_map {α : Type} {R : Rep α} {xs : List α} {i : Int} {x : α} (h : getI xs i = .ok x) : atI (xs.map (tv R)) i = some (tv R x) := by
  have e := getI_ok h
  unfold atI at e ⊢
  rw [List.length_map]
  cases q : ixN xs.length i with
  | none =>
    rw [q] at e
    cases e
  | some j =>
    rw [q] at e
    have e : xs[j]? = some x := e
    show (xs.map (tv R))[j]? = _
    rw [List.getElem?_map, e]
    rfl
theorem atI_len {α β : Type} {xs : List α} {ys : List β} (h : xs.length = ys.length) {i : Int} {y : β} (e : atI ys i = some y) : ∃ j : Nat, ys[j]? = some y ∧ ∀ x, xs[j]? = some x → atI xs i = some x := by
  unfold atI at e ⊢
  rw [h]
  cases q : ixN ys.length i with
  | none =>
    rw [q] at e
    cases e
  | some j =>
    rw [q] at e
    exact ⟨j, e, fun x hx => hx⟩

/-! ### operators on values -/
section
variable {K : PySem.W.Frag} {Mu : Mm} {a b : Int} {s : SV} {ts : List TV} {t : TV}
theorem rv_same {r : R2} {sa sb s : SV} (h : ∀ B S ls H x y Q, HS K B S ls Mu H → sa.p K S ls x → sb.p K S ls y → (∀ v, s.p K S ls v → Q v H) → r x y H Q) : Rv K r Mu Mu sa sb s :=
  fun B S ls H x y Q hs ha hb q => h B S ls H x y Q hs ha hb fun v hv => q v S ls H (Same.refl _) (Pre.refl _) hs hv
theorem rc_same {r : List V → Hp → VK → Prop} {ss : List SV} {s : SV} (h : ∀ B S ls H vs Q, HS K B S ls Mu H → AllS K S ls vs ss → (∀ v, s.p K S ls v → Q v H) → r vs H Q) : Rc K r Mu Mu ss s :=
  fun B S ls H vs Q hs ha q => h B S ls H vs Q hs ha fun v hv => q v S ls H (Same.refl _) (Pre.refl _) hs hv
theorem ru_same {r : V → Hp → VK → Prop} {sa s : SV} (h : ∀ B S ls H x Q, HS K B S ls Mu H → sa.p K S ls x → (∀ v, s.p K S ls v → Q v H) → r x H Q) : Ru K r Mu Mu sa s :=
  fun B S ls H x Q hs ha q => h B S ls H x Q hs ha fun v hv => q v S ls H (Same.refl _) (Pre.refl _) hs hv
theorem rv_I0 {g : Int → Int → V} (h : ∀ S ls, s.p K S ls (g a b)) : Rv K (rI0 g) Mu Mu (vI a) (vI b) s := rv_same fun B S ls H x y Q hs ha hb q => ⟨a, b, ha, hb, q _ (h S ls)⟩
theorem rv_IC {C : Int → Int → Prop} {g : Int → Int → V} (hc : C a b) (h : ∀ S ls, s.p K S ls (g a b)) : Rv K (rI C g) Mu Mu (vI a) (vI b) s := rv_same fun B S ls H x y Q hs ha hb q => ⟨a, b, ha, hb, hc, q _ (h S ls)⟩
theorem rv_add : Rv K (rI0 fun i j => .int (i + j)) Mu Mu (vI a) (vI b) (vI (a + b)) := rv_I0 fun _ _ => rfl
theorem rv_sub : Rv K (rI0 fun i j => .int (i - j)) Mu Mu (vI a) (vI b) (vI (a - b)) := rv_I0 fun _ _ => rfl
theorem rv_lt : Rv K (rI0 fun i j => .bl (decide (i < j))) Mu Mu (vI a) (vI b) (vB (decide (a < b))) := rv_I0 fun _ _ => rfl
theorem rv_le : Rv K (rI0 fun i j => .bl (decide (i ≤ j))) Mu Mu (vI a) (vI b) (vB (decide (a ≤ b))) := rv_I0 fun _ _ => rfl
theorem rv_gt : Rv K (rI0 fun i j => .bl (decide (j < i))) Mu Mu (vI a) (vI b) (vB (decide (b < a))) := rv_I0 fun _ _ => rfl
theorem rv_ge : Rv K (rI0 fun i j => .bl (decide (j ≤ i))) Mu Mu (vI a) (vI b) (vB (decide (b ≤ a))) := rv_I0 fun _ _ => rfl
theorem rv_mod (h : 0 < b) : Rv K (rI (fun _ j => 0 < j) fun i j => .int (i % j)) Mu Mu (vI a) (vI b) (vI (a % b)) := rv_IC h fun _ _ => rfl
theorem rv_fdiv (h : CDivW a b) : Rv K (rI CDivW fun i j => .int (i / j)) Mu Mu (vI a) (vI b) (vI (a / b)) := rv_IC h fun _ _ => rfl
theorem rv_mul (h : CMulX a b) : Rv K (rI CMulX fun i j => .int (i * j)) Mu Mu (vI a) (vI b) (vI (a * b)) := rv_IC h fun _ _ => rfl
theorem rv_shr (h : 0 ≤ b) : Rv K (rI (fun _ j => 0 ≤ j) fun i j => .int (i / 2 ^ j.toNat)) Mu Mu (vI a) (vI b) (vI (a / 2 ^ b.toNat)) := rv_IC h fun _ _ => rfl
/-- powers -/
def CPowW (i j : Int) : Prop := 0 ≤ j ∧ (Builtin.Int.intBits i : Int) * j ≤ 2 ^ 27
theorem op_powW {X : Cx} : OpR X (binaryOp .Pow) (rI CPowW fun i j => .int (i ^ j.toNat)) := opI fun _ _ _ _ _ _ _ hc q => PyProof.Rows.pow_int hc.1 hc.2 q
theorem rv_pow (h : CPowW a b) : Rv K (rI CPowW fun i j => .int (i ^ j.toNat)) Mu Mu (vI a) (vI b) (vI (a ^ b.toNat)) := rv_IC h fun _ _ => rfl
/-- == of flat things -/
theorem rv_eqI : Rv K rEq Mu Mu (vI a) (vI b) (vB (decide (a = b))) := rv_same fun B S ls H x y Q hs ha hb q => by
  cases ha
  cases hb
  refine ⟨rfl, q _ ?_⟩
  show V.bl _ = V.bl _
  rw [dec_int, Bool.beq_eq_decide_eq]
theorem rv_neI : Rv K rNe Mu Mu (vI a) (vI b) (vB (!decide (a = b))) := rv_same fun B S ls H x y Q hs ha hb q => by
  cases ha
  cases hb
  refine ⟨rfl, q _ ?_⟩
  show V.bl _ = V.bl _
  rw [dec_int, Bool.beq_eq_decide_eq]
theorem rv_eqS {x y : Str} : Rv K rEq Mu Mu (vS x) (vS y) (vB (decide (x = y))) := rv_same fun B S ls H x y Q hs ha hb q => by
  cases ha
  cases hb
  refine ⟨rfl, q _ ?_⟩
  show V.bl _ = V.bl _
  congr 1
  exact Bool.eq_iff_iff.mpr (by simp)
theorem rv_neS {x y : Str} : Rv K rNe Mu Mu (vS x) (vS y) (vB (!decide (x = y))) := rv_same fun B S ls H x y Q hs ha hb q => by
  cases ha
  cases hb
  refine ⟨rfl, q _ ?_⟩
  show V.bl _ = V.bl _
  congr 2
  exact Bool.eq_iff_iff.mpr (by simp)
theorem rv_eqB {x y : Bool} : Rv K rEq Mu Mu (vB x) (vB y) (vB (decide (x = y))) := rv_same fun B S ls H x y Q hs ha hb q => by
  cases ha
  cases hb
  refine ⟨rfl, q _ ?_⟩
  show V.bl _ = V.bl _
  congr 1
  exact Bool.eq_iff_iff.mpr (by simp)
theorem rv_neB {x y : Bool} : Rv K rNe Mu Mu (vB x) (vB y) (vB (!decide (x = y))) := rv_same fun B S ls H x y Q hs ha hb q => by
  cases ha
  cases hb
  refine ⟨rfl, q _ ?_⟩
  show V.bl _ = V.bl _
  congr 2
  exact Bool.eq_iff_iff.mpr (by simp)
/-- subscripts -/
theorem all_at {vs : List V} {S : Hp} (r : AllT K S vs ts) {i : Int} (h : atI ts i = some t) : ∃ v, atI vs i = some v ∧ t.p K S v := by
  obtain ⟨j, e, f⟩ := atI_len (xs := vs) (ys := ts) (Paired.length r) h
  obtain ⟨v, e1, e2⟩ := Paired.get2 r e
  exact ⟨v, f v e1, e2⟩
theorem rv_ixL {i : Int} {k : Knd} (h : IsSq K Mu s k ts) (hi : atI ts i = some t) (hk : k.isL = true := by rfl) : Rv K (rIxL K) Mu Mu s (vI i) (.val t) := rv_same fun B S ls H x y Q hs ha hb q => by
  obtain ⟨p, vs, e, sq, l, r⟩ := h B S ls H x hs ha
  obtain ⟨v, e1, e2⟩ := all_at r hi
  exact ⟨p, vs, i, v, e, hb, SqK.seq sq hk, e1, q v e2⟩
theorem rv_ixT {i : Int} {k : Knd} (h : IsSq K Mu s k ts) (hi : atI ts i = some t) (hk : k.isL = false := by rfl) : Rv K (rIxT K) Mu Mu s (vI i) (.val t) := rv_same fun B S ls H x y Q hs ha hb q => by
  obtain ⟨p, vs, e, sq, l, r⟩ := h B S ls H x hs ha
  obtain ⟨v, e1, e2⟩ := all_at r hi
  exact ⟨p, vs, i, v, e, hb, SqK.tup sq hk, e1, q v e2⟩
/-- len -/
theorem rc_len {k : Knd} {n : Nat} (h : IsSq K Mu s k ts) (hn : ts.length = n) : Rc K (fun xs H Q => ∃ p ys, xs = [.ref p] ∧ (SqL K H p ys ∨ SqT K H p ys) ∧ Q (.int ys.length) H) Mu Mu [s] (vI (n : Int)) := rc_same fun B S ls H vs Q hs ha q => by
  cases ha with
  | cons r0 r1 =>
    cases r1
    obtain ⟨p, xs, e, sq, l, r⟩ := h B S ls H _ hs r0
    subst e
    refine ⟨p, xs, rfl, SqK.both sq, q _ ?_⟩
    · show V.int _ = V.int _
      rw [Paired.length r, hn]
/-- in, not in: flat things -/
structure Flat {α : Type} [BEq α] (R : Rep α) : Prop where
  fl : ∀ {K S v a}, R.p K S v a → flatV v = true
  eq : ∀ {K S v a w b}, R.p K S v a → R.p K S w b → eqV w v = (b == a)
theorem flat_int : Flat rInt := ⟨fun h => by cases h; rfl, fun h h2 => by cases h; cases h2; rfl⟩
theorem flat_str : Flat rStr := ⟨fun h => by cases h; rfl, fun h h2 => by cases h; cases h2; rfl⟩
theorem flat_bool : Flat rBool := ⟨fun h => by cases h; rfl, fun h h2 => by cases h; cases h2; rfl⟩
theorem all_flat {α : Type} [BEq α] {R : Rep α} (F : Flat R) {S : Hp} : ∀ {vs : List V} {xs : List α}, AllT K S vs (xs.map (tv R)) → vs.all flatV = true
  | [], [], _ => rfl
  | [], _ :: _, h => nomatch h
  | _ :: _, [], h => nomatch h
  | v :: vs, x :: xs, .cons r t => by
    rw [List.all_cons, F.fl r, all_flat F t]
    rfl
theorem inV_flat {α : Type} [BEq α] [LawfulBEq α] {R : Rep α} (F : Flat R) {S : Hp} {v : V} {a : α} (ra : R.p K S v a) : ∀ {vs : List V} {xs : List α}, AllT K S vs (xs.map (tv R)) → inV v vs = xs.contains a
  | [], [], _ => rfl
  | [], _ :: _, h => nomatch h
  | _ :: _, [], h => nomatch h
  | w :: vs, x :: xs, .cons r t => by
    have e1 : inV v (w :: vs) = (eqV w v || inV v vs) := rfl
    rw [e1, F.eq ra r, inV_flat F ra t, List.contains_cons]
    have e2 : (x == a) = (a == x) := Bool.eq_iff_iff.mpr (by rw [beq_iff_eq, beq_iff_eq]; exact eq_comm)
    rw [e2]
theorem rv_in {α : Type} [BEq α] [LawfulBEq α] {R : Rep α} (F : Flat R) {s : SV} {k : Knd} {xs : List α} {a : α} (h : IsSq K Mu s k (xs.map (tv R))) : Rv K (rIn K false) Mu Mu (.val (tv R a)) s (vB (xs.contains a)) := rv_same fun B S ls H x y Q hs ha hb q => by
  obtain ⟨p, vs, e, sq, l, r⟩ := h B S ls H y hs hb
  refine ⟨p, vs, e, SqK.both sq, F.fl ha, all_flat F r, q _ ?_⟩
  · show V.bl _ = V.bl _
    rw [inV_flat F ha r]
    rfl
theorem rv_nin {α : Type} [BEq α] [LawfulBEq α] {R : Rep α} (F : Flat R) {s : SV} {k : Knd} {xs : List α} {a : α} (h : IsSq K Mu s k (xs.map (tv R))) : Rv K (rIn K true) Mu Mu (.val (tv R a)) s (vB (!xs.contains a)) := rv_same fun B S ls H x y Q hs ha hb q => by
  obtain ⟨p, vs, e, sq, l, r⟩ := h B S ls H y hs hb
  refine ⟨p, vs, e, SqK.both sq, F.fl ha, all_flat F r, q _ ?_⟩
  · show V.bl _ = V.bl _
    rw [inV_flat F ha r]
    rfl
end

/-! ### displays, fresh things -/
section
variable {K : PySem.W.Frag} {G : Gm} {Mu Mu1 Mu2 : Mm} {ta : TA} {te : TE} {ts : List TV} {m : MV} {t : TV}
theorem allS_vals {S : Hp} {ls : List Addr} : ∀ {vs : List V} {ts : List TV}, AllS K S ls vs (ts.map .val) → AllT K S vs ts
  | [], [], _ => .nil
  | [], _ :: _, h => nomatch h
  | _ :: _, [], h => nomatch h
  | _ :: _, _ :: _, .cons r t => .cons r (allS_vals t)
theorem allT_vals {S : Hp} {ls : List Addr} : ∀ {vs : List V} {ts : List TV}, AllT K S vs ts → AllS K S ls vs (ts.map .val)
  | _, _, .nil => .nil
  | _, _, .cons r t => .cons r (allT_vals t)
/-- (a, b, ..) -/
theorem ev_tup {ss : List SV} (h : EvA K ta G Mu Mu1 ss) (e : ss = ts.map .val := by rfl) (hl : Nat.ble ts.length 64 = true := by rfl) : EvV K (tTup ta) G Mu Mu1 (.val (tupT ts)) := fun B σ S ls H Q sl hs q =>
  h B σ S ls H _ sl hs fun vs S1 l1 H1 a1 b1 c1 d1 => by
    subst e
    have r := allS_vals d1
    have hz : vs.length ≤ sizeLine := by
      have hl := Nat.le_of_ble_eq_true hl
      rw [Paired.length r, sizeLine_eq]
      omega
    refine ⟨hz, fun p hp => ?_⟩
    obtain ⟨s2, h2⟩ := c1.laid (o := .tup vs) hp
    exact q _ _ _ _ (a1.trans s2) b1 h2 ⟨p, vs, rfl, upd_same, hz, r.mono s2⟩
/-- [a, b, ..] -/
theorem ef_lst {ss : List SV} (h : EvA K ta G Mu Mu1 ss) (e : ss = ts.map .val := by rfl) (hl : Nat.ble ts.length 64 = true := by rfl) : EvF K (tLst ta) G Mu Mu1 (mL ts) := fun B σ S ls H Q sl hs q =>
  h B σ S ls H _ sl hs fun vs S1 l1 H1 a1 b1 c1 d1 => by
    subst e
    have r := allS_vals d1
    have hz : vs.length ≤ sizeLine := by
      have hl := Nat.le_of_ble_eq_true hl
      rw [Paired.length r, sizeLine_eq]
      omega
    exact ⟨hz, fun p hp => (q.mono a1 b1).new c1 hp ⟨vs, rfl, hz, r⟩⟩
theorem frz_l {ts : List TV} : Frz (mL ts) (lstT ts) := fun ⟨ef, o, e1, vs, e, l, r⟩ s1 hf => by
  subst e
  exact ⟨_, vs, rfl, (hf _ ((ef _).mpr rfl)).trans e1, l, r.mono s1⟩
/-- a new object stands from now on -/
theorem ev_frz (h : EvF K te G Mu Mu1 m) (f : Frz m t) (hl : Nat.ble Mu.length Mu1.length = true := by rfl) : EvV K te G Mu Mu1 (.val t) := fun B σ S ls H Q sl hs q =>
  h B σ S ls H _ sl hs fun v S1 l1 H1 a1 b1 c1 d1 => by
    obtain ⟨a, e1, e2⟩ := d1
    subst e2
    obtain ⟨a', S2, f1, s2, h2, ht⟩ := c1.freeze (k := Mu1.length) (m := m) (by simp) f
    rw [e1] at f1
    cases f1
    have hlen := c1.len
    rw [List.length_append, List.length_singleton] at hlen
    obtain ⟨l2, b, el⟩ : ∃ l2 b, l1 = l2 ++ [b] := ⟨l1.dropLast, l1.getLast (by intro z; rw [z] at hlen; simp at hlen), (List.dropLast_concat_getLast _).symm⟩
    subst el
    have hl2 : l2.length = Mu1.length := by
      rw [List.length_append, List.length_singleton] at hlen
      omega
    have hle : ls.length ≤ l2.length := by
      rw [hs.len, hl2]
      exact Nat.le_of_ble_eq_true hl
    have hp := b1.cut hle
    have e3 : (Mu1 ++ [some m]).set Mu1.length none = Mu1 ++ [none] := by simp
    rw [e3] at h2
    exact q _ S2 l2 H1 (a1.trans s2) hp (h2.cut (hs.c0.trans hp)) ht
theorem ev_lst (h : EvF K te G Mu Mu1 (mL ts)) (hl : Nat.ble Mu.length Mu1.length = true := by rfl) : EvV K te G Mu Mu1 (.val (lstT ts)) := ev_frz h frz_l hl
/-- .. or is an own cell -/
theorem ev_own (h : EvF K te G Mu Mu1 m) : EvV K te G Mu (Mu1 ++ [some m]) (.cell Mu1.length) := h
end

/-! ### blocks -/
inductive OS where
  | nx (G : Gm) (Mu : Mm) | bk (G : Gm) (Mu : Mm) | ct (G : Gm) (Mu : Mm)
  | rt (t : TV) (Mp : Mm) | rf (m : MV) (Mp : Mm) | vd (Mp : Mm) | rn (Mp : Mm) | ex (x : Xc) (g : Option Gm) (Mp : Mm) | never
/-- the same cells, as far as both tell -/
def Cmp (ls ls' : List Addr) : Prop := ∀ (k : Nat) (a : Addr), ls[k]? = some a → k < ls'.length → ls'[k]? = some a
theorem Cmp.refl (ls : List Addr) : Cmp ls ls := fun _ _ e _ => e
theorem Cmp.pre {a b c : List Addr} (h : Pre a b) (g : Cmp b c) : Cmp a c := fun k x e l => g k x (h.get e) l
theorem Cmp.take {a b : List Addr} (h : Pre a b) (n : Nat) : Cmp a (b.take n) := fun k x e l => by
  rw [List.getElem?_take_of_lt (by rw [List.length_take] at l; omega)]
  exact h.get e
theorem Cmp.to_pre {a b : List Addr} (h : Cmp a b) (l : a.length ≤ b.length) : Pre a b := by
  refine ⟨b.drop a.length, ?_⟩
  apply List.ext_getElem?
  intro k
  by_cases hk : k < a.length
  · rw [List.getElem?_append_left hk, List.getElem?_eq_getElem hk]
    exact h k _ (List.getElem?_eq_getElem hk) (by omega)
  · rw [List.getElem?_append_right (by omega), List.getElem?_drop]
    congr 1
    omega
/-- an exception of the program, as x tells: its class, its fields -/
def xaV : XA → V
  | .int i => .int i
  | .txt l => .str ⟨l.toArray⟩
structure XcD where
  cls : Str
  fs : List Str
/-- the program's exception classes, by number -/
def XIs (K : PySem.W.Frag) (T : List XcD) (S : Hp) (x : Xc) (cls : Value) (d : Option Addr) : Prop :=
  ∃ (D : XcD) (a : Addr), T[x.cls]? = some D ∧ cls = .ref (He.ga K D.cls) ∧ d = some a ∧ D.fs.length = x.args.length ∧ S a = some (.xd (D.fs.zip (x.args.map xaV)).reverse)
theorem XIs.mono {K : PySem.W.Frag} {T : List XcD} {S S' : Hp} {x : Xc} {cls : Value} {d : Option Addr} (h : Same S S') (q : XIs K T S x cls d) : XIs K T S' x cls d := by
  obtain ⟨D, a, e1, e2, e3, e4, e5⟩ := q
  exact ⟨D, a, e1, e2, e3, e4, h _ _ e5⟩
/-- where one stands: the exception classes, the wish about what is raised -/
structure Xw where
  T : List XcD
  W : WX
def Acc (K : PySem.W.Frag) (W : Xw) (B : Bs) (S : Hp) (ls : List Addr) (D : Ends) : OS → Prop
  | .nx G Mu => ∀ σ' S' ls' H', Same S S' → Cmp ls ls' → Sl K S' ls' σ' G → HS K B S' ls' Mu H' → D.nx σ' H'
  | .bk G Mu => ∀ σ' S' ls' H', Same S S' → Cmp ls ls' → Sl K S' ls' σ' G → HS K B S' ls' Mu H' → D.bk σ' H'
  | .ct G Mu => ∀ σ' S' ls' H', Same S S' → Cmp ls ls' → Sl K S' ls' σ' G → HS K B S' ls' Mu H' → D.ct σ' H'
  | .rt t Mp => ∀ v S' ls' H' Mj, HS K B S' ls' (Mp ++ Mj) H' → t.p K S' v → D.rt v H'
  | .rf m Mp => ∀ p S' ls' H', HS K B S' (ls' ++ [p]) (Mp ++ [some m]) H' → ls'.length = Mp.length → D.rt (.ref p) H'
  | .vd Mp => ∀ σ' S' ls' H' Mj, HS K B S' ls' (Mp ++ Mj) H' → D.nx σ' H' ∧ D.rt .non H'
  | .rn Mp => ∀ S' ls' H' Mj, HS K B S' ls' (Mp ++ Mj) H' → D.rt .non H'
  | .ex x g Mp => ∀ σ' S' ls' H' cls d Mj, Same S S' → Cmp ls ls' → (∀ G, g = some G → Sl K S' ls' σ' G) → HS K B S' ls' (Mp ++ Mj) H' → XIs K W.T S' x cls d → W.W cls d σ' H'
  | .never => True
theorem Acc.mono {K : PySem.W.Frag} {W : Xw} {B : Bs} {S S1 : Hp} {ls ls1 : List Addr} {D : Ends} (h : Same S S1) (g : Pre ls ls1) : ∀ {o : OS}, Acc K W B S ls D o → Acc K W B S1 ls1 D o
  | .nx _ _, q => fun σ' S' ls' H' z a => q σ' S' ls' H' (h.trans z) (a.pre g)
  | .bk _ _, q => fun σ' S' ls' H' z a => q σ' S' ls' H' (h.trans z) (a.pre g)
  | .ct _ _, q => fun σ' S' ls' H' z a => q σ' S' ls' H' (h.trans z) (a.pre g)
  | .rt _ _, q => q
  | .rf _ _, q => q
  | .vd _, q => q
  | .rn _, q => q
  | .ex _ _ _, q => fun σ' S' ls' H' cls d Mj z a => q σ' S' ls' H' cls d Mj (h.trans z) (a.pre g)
  | .never, _ => trivial
def EvB {ω : Type} (K : PySem.W.Frag) (W : Xw) (np : Nat) (t : TS) (G : Gm) (Mu : Mm) (κ : ω → OS) (m : Mr ω) : Prop :=
  ∀ B σ S ls H D w, B.L0.length = np → Sl K S ls σ G → HS K B S ls Mu H → m = .ok w → Acc K W B S ls D (κ w) → t D σ H
/-- slots forgotten, slot by slot -/
inductive GSub : Gm → Gm → Prop where
  | nil : GSub [] []
  | keep {s : Option SV} {G' G : Gm} (h : GSub G' G) : GSub (s :: G') (s :: G)
  | drop {s : Option SV} {G' G : Gm} (h : GSub G' G) : GSub (none :: G') (s :: G)
theorem GSub.len : ∀ {G' G : Gm}, GSub G' G → G'.length = G.length
  | _, _, .nil => rfl
  | _, _, .keep h => congrArg (· + 1) h.len
  | _, _, .drop h => congrArg (· + 1) h.len
theorem GSub.get : ∀ {G' G : Gm}, GSub G' G → ∀ (i : Nat) (s : SV), G'[i]? = some (some s) → G[i]? = some (some s)
  | _, _, .nil, _, _, e => by simp at e
  | _, _, .keep h, 0, _, e => e
  | _, _, .keep h, i + 1, s, e => h.get i s e
  | _, _, .drop h, 0, _, e => by simp at e
  | _, _, .drop h, i + 1, s, e => h.get i s e
theorem GSub.refl : ∀ G : Gm, GSub G G
  | [] => .nil
  | _ :: G => .keep (GSub.refl G)
theorem Sl.sub {K : PySem.W.Frag} {S : Hp} {ls : List Addr} {σ : St} {G G' : Gm} (q : Sl K S ls σ G) (h : GSub G' G) : Sl K S ls σ G' := q.drop h.len h.get
def cellsOk (n : Nat) : Gm → Bool
  | [] => true
  | some (.cell k) :: r => decide (k < n) && cellsOk n r
  | _ :: r => cellsOk n r
theorem cellsOk_get {n : Nat} : ∀ {G : Gm}, cellsOk n G = true → ∀ (i k : Nat), G[i]? = some (some (.cell k)) → k < n
  | [], _, i, k, e => by simp at e
  | some (.cell j) :: r, h, 0, k, e => by
    have e : some (SV.cell j) = some (SV.cell k) := by simpa using e
    cases e
    have := (Bool.and_eq_true_iff.mp (show (decide (j < n) && cellsOk n r) = true from h)).1
    exact of_decide_eq_true this
  | some (.cell j) :: r, h, i + 1, k, e => cellsOk_get ((Bool.and_eq_true_iff.mp (show (decide (j < n) && cellsOk n r) = true from h)).2) i k (by simpa using e)
  | some (.val t) :: r, h, 0, k, e => by simp at e
  | some (.val t) :: r, h, i + 1, k, e => cellsOk_get (show cellsOk n r = true from h) i k (by simpa using e)
  | none :: r, h, 0, k, e => by simp at e
  | none :: r, h, i + 1, k, e => cellsOk_get (show cellsOk n r = true from h) i k (by simpa using e)
theorem Sl.trunc {K : PySem.W.Frag} {S : Hp} {ls : List Addr} {σ : St} {G : Gm} {n : Nat} (q : Sl K S ls σ G) (h : cellsOk n G = true) : Sl K S (ls.take n) σ G :=
  ⟨q.1, fun i s e => by
    obtain ⟨v, e1, e2⟩ := q.2 i s e
    refine ⟨v, e1, ?_⟩
    cases s with
    | val t => exact e2
    | cell k =>
      obtain ⟨a, f1, f2⟩ := e2
      exact ⟨a, by rw [List.getElem?_take_of_lt (cellsOk_get h i k e)]; exact f1, f2⟩⟩
section
variable {ω τ : Type} {K : PySem.W.Frag} {W : Xw} {np : Nat} {G G' : Gm} {Mu Mu1 Mu2 : Mm} {κ : ω → OS} {m : Mr ω} {w : ω} {t u : TS} {te : TE} {s : SV} {i : Nat}
theorem eb_bind {α : Type} {p : Mr α} {k : α → Mr ω} (h : ∀ r, p = .ok r → EvB K W np t G Mu κ (k r)) : EvB K W np t G Mu κ (p >>= k) := fun B σ S ls H D w hn sl hs e q => by
  obtain ⟨a, e1, e2⟩ := bind_ok e
  exact h a e1 B σ S ls H D w hn sl hs e2 q
theorem eb_if {c : Prop} [Decidable c] {m1 m2 : Mr ω} (h1 : c → EvB K W np t G Mu κ m1) (h2 : ¬ c → EvB K W np t G Mu κ m2) : EvB K W np t G Mu κ (if c then m1 else m2) := by
  by_cases h : c
  · rw [if_pos h]
    exact h1 h
  · rw [if_neg h]
    exact h2 h
theorem eb_eq {m' : Mr ω} (h : EvB K W np t G Mu κ m') (e : m = m') : EvB K W np t G Mu κ m := e ▸ h
/-- the end of a block; what came to be in it is dropped -/
theorem eb_nil {G0 : Gm} {Mu0 Mj : Mm} (hκ : κ w = .nx G0 Mu0) (hG : GSub G0 G) (hM : Mu = Mu0 ++ Mj) (hn : np ≤ Mu0.length) (hc : cellsOk Mu0.length G0 = true) : EvB K W np tNext G Mu κ (.ok w) := fun B σ S ls H D w' e0 sl hs e q => by
  cases e
  rw [hκ] at q
  subst hM
  have hp : B.L0.length ≤ Mu0.length := by rw [e0]; exact hn
  exact q σ S _ H (Same.refl _) (Cmp.take (Pre.refl _) _) ((sl.sub hG).trunc hc) (hs.trunc hp)
theorem eb_pass (h : EvB K W np u G Mu κ m) : EvB K W np (tSeq tNext u) G Mu κ m := fun B σ S ls H D w hn sl hs e q => h B σ S ls H D w hn sl hs e q
theorem eb_brk {G0 : Gm} {Mu0 Mj : Mm} (hκ : κ w = .bk G0 Mu0) (hG : GSub G0 G) (hM : Mu = Mu0 ++ Mj) (hn : np ≤ Mu0.length) (hc : cellsOk Mu0.length G0 = true) : EvB K W np (tSeq tBreak u) G Mu κ (.ok w) := fun B σ S ls H D w' e0 sl hs e q => by
  cases e
  rw [hκ] at q
  subst hM
  have hp : B.L0.length ≤ Mu0.length := by rw [e0]; exact hn
  exact q σ S _ H (Same.refl _) (Cmp.take (Pre.refl _) _) ((sl.sub hG).trunc hc) (hs.trunc hp)
theorem eb_cnt {G0 : Gm} {Mu0 Mj : Mm} (hκ : κ w = .ct G0 Mu0) (hG : GSub G0 G) (hM : Mu = Mu0 ++ Mj) (hn : np ≤ Mu0.length) (hc : cellsOk Mu0.length G0 = true) : EvB K W np (tSeq tCont u) G Mu κ (.ok w) := fun B σ S ls H D w' e0 sl hs e q => by
  cases e
  rw [hκ] at q
  subst hM
  have hp : B.L0.length ≤ Mu0.length := by rw [e0]; exact hn
  exact q σ S _ H (Same.refl _) (Cmp.take (Pre.refl _) _) ((sl.sub hG).trunc hc) (hs.trunc hp)
/-- x = e -/
theorem eb_asg (h : EvV K te G Mu Mu1 s) (r : EvB K W np u (G.set i (some s)) Mu1 κ m) : EvB K W np (tSeq (tAsg te (gName i)) u) G Mu κ m := fun B σ S ls H D w hn sl hs e q =>
  h B σ S ls H _ sl hs fun v S1 l1 H1 a1 b1 c1 d1 => r B (σ.set i (some v)) S1 l1 H1 D w hn ((sl.mono a1 b1).set d1) c1 e (q.mono a1 b1)
/-- e; alone -/
theorem eb_drop (h : EvV K te G Mu Mu1 s) (r : EvB K W np u G Mu1 κ m) : EvB K W np (tSeq (tDrop te) u) G Mu κ m := fun B σ S ls H D w hn sl hs e q =>
  h B σ S ls H _ sl hs fun v S1 l1 H1 a1 b1 c1 d1 => r B σ S1 l1 H1 D w hn (sl.mono a1 b1) c1 e (q.mono a1 b1)
/-- return e -/
theorem eb_ret {tt : TV} {Mp Mj : Mm} (h : EvV K te G Mu Mu1 (.val tt)) (hκ : κ w = .rt tt Mp) (hM : Mu1 = Mp ++ Mj) : EvB K W np (tSeq (tRet te) u) G Mu κ (.ok w) := fun B σ S ls H D w' hn sl hs e q => by
  cases e
  rw [hκ] at q
  subst hM
  exact h B σ S ls H _ sl hs fun v S1 l1 H1 a1 b1 c1 d1 => q v S1 l1 H1 Mj c1 d1
/-- return of an own cell, of a new object -/
theorem eb_retC {mv : MV} {Mp Mj : Mm} {k : Nat} (h : EvV K te G Mu Mu1 (.cell k)) (hκ : κ w = .rf mv Mp) (hM : Mu1 = Mp ++ Mj) (hk : Mu1[k]? = some (some mv)) (hp : Mp.length ≤ k) (hnp : np ≤ Mp.length) : EvB K W np (tSeq (tRet te) u) G Mu κ (.ok w) := fun B σ S ls H D w' hn sl hs e q => by
  cases e
  rw [hκ] at q
  refine h B σ S ls H _ sl hs fun v S1 l1 H1 a1 b1 c1 d1 => ?_
  obtain ⟨a, e1, e2⟩ := d1
  subst e2
  subst hM
  have hl : Mp.length ≤ l1.length := by
    rw [c1.len, List.length_append]
    omega
  exact q a S1 (l1.take Mp.length) H1 (c1.pick hk hp e1 (by rw [hn]; exact hnp)) (by rw [List.length_take]; omega)
theorem eb_retF {mv : MV} {Mp Mj : Mm} (h : EvF K te G Mu Mu1 mv) (hκ : κ w = .rf mv Mp) (hM : Mu1 = Mp ++ Mj) (hnp : np ≤ Mp.length) : EvB K W np (tSeq (tRet te) u) G Mu κ (.ok w) :=
  eb_retC (Mj := Mj ++ [some mv]) h hκ (by rw [hM, List.append_assoc]) (by simp) (by rw [hM, List.length_append]; omega) hnp
theorem eb_retN {Mp Mj : Mm} (hκ : κ w = .vd Mp ∨ κ w = .rn Mp) (hM : Mu = Mp ++ Mj) : EvB K W np (tSeq tRetN u) G Mu κ (.ok w) := fun B σ S ls H D w' hn sl hs e q => by
  cases e
  subst hM
  rcases hκ with hκ | hκ
  · rw [hκ] at q
    exact (q σ S ls H Mj hs).2
  · rw [hκ] at q
    exact q S ls H Mj hs
/-- the end of a def without a value -/
theorem eb_end {Mp Mj : Mm} (hκ : κ w = .vd Mp) (hM : Mu = Mp ++ Mj) : EvB K W np tNext G Mu κ (.ok w) := fun B σ S ls H D w' hn sl hs e q => by
  cases e
  rw [hκ] at q
  subst hM
  exact (q σ S ls H Mj hs).1
/-- outcomes of a part, beside going on -/
def inn : OS → OS
  | .nx _ _ => .never
  | .vd Mp => .rn Mp
  | o => o
def innL : OS → OS
  | .rt t Mp => .rt t Mp
  | .rf m Mp => .rf m Mp
  | .vd Mp => .rn Mp
  | .rn Mp => .rn Mp
  | .ex x g Mp => .ex x g Mp
  | _ => .never
abbrev inner (κ : ω → OS) (w : ω) : OS := inn (κ w)
abbrev innerL (κ : ω → OS) (w : ω) : OS := innL (κ w)
theorem acc_inn {B : Bs} {S : Hp} {ls : List Addr} {D D' : Ends} (hr : D'.rt = D.rt) (hb : D'.bk = D.bk) (hc : D'.ct = D.ct) : ∀ {o : OS}, Acc K W B S ls D o → Acc K W B S ls D' (inn o)
  | .nx _ _, _ => trivial
  | .bk _ _, q => fun σ' S' ls' H' a b c d => by rw [hb]; exact q σ' S' ls' H' a b c d
  | .ct _ _, q => fun σ' S' ls' H' a b c d => by rw [hc]; exact q σ' S' ls' H' a b c d
  | .rt _ _, q => fun v S' ls' H' Mj a b => by rw [hr]; exact q v S' ls' H' Mj a b
  | .rf _ _, q => fun p S' ls' H' a b => by rw [hr]; exact q p S' ls' H' a b
  | .vd _, q => fun S' ls' H' Mj a => by rw [hr]; exact (q [] S' ls' H' Mj a).2
  | .rn _, q => fun S' ls' H' Mj a => by rw [hr]; exact q S' ls' H' Mj a
  | .ex _ _ _, q => q
  | .never, _ => trivial
theorem acc_innL {B : Bs} {S S' : Hp} {ls ls' : List Addr} {D D' : Ends} (hr : D'.rt = D.rt) (hs : Same S S') (hp : Pre ls ls') : ∀ {o : OS}, Acc K W B S ls D o → Acc K W B S' ls' D' (innL o)
  | .nx _ _, _ => trivial
  | .bk _ _, q => trivial
  | .ct _ _, q => trivial
  | .rt _ _, q => fun v S' ls' H' Mj a b => by rw [hr]; exact q v S' ls' H' Mj a b
  | .rf _ _, q => fun p S' ls' H' a b => by rw [hr]; exact q p S' ls' H' a b
  | .vd _, q => fun S' ls' H' Mj a => by rw [hr]; exact (q [] S' ls' H' Mj a).2
  | .rn _, q => fun S' ls' H' Mj a => by rw [hr]; exact q S' ls' H' Mj a
  | .ex _ _ _, q => fun σ' S2 l2 H2 cls d Mj z a => q σ' S2 l2 H2 cls d Mj (hs.trans z) (a.pre hp)
  | .never, _ => trivial
def jnK (g : τ → Gm) (mu : τ → Mm) (κ : ω → OS) : Jn τ ω → OS
  | .go s => .nx (g s) (mu s)
  | .out w => inner κ w
/-- if c: a (that does not go on); and what follows -/
theorem eb_ifr {tc : TT} {ta : TS} {b : Bool} {mA mR : Mr ω} (h : EvT K tc G Mu Mu1 b) (hA : b = true → EvB K W np ta G Mu1 (inner κ) mA) (hR : b = false → EvB K W np u G Mu1 κ mR) :
    EvB K W np (tSeq (tIfS tc ta tNext) u) G Mu κ (if b = true then mA else mR) := fun B σ S ls H D w hn sl hs e q =>
  h B σ S ls H _ sl hs fun S1 l1 H1 a1 b1 c1 => by
    cases b with
    | true =>
      rw [if_pos rfl] at e
      rw [if_pos rfl]
      exact hA rfl B σ S1 l1 H1 _ w hn (sl.mono a1 b1) c1 e (acc_inn (D := D) (D' := { D with nx := u D }) rfl rfl rfl (q.mono a1 b1))
    | false =>
      rw [if_neg Bool.false_ne_true] at e
      rw [if_neg Bool.false_ne_true]
      exact hR rfl B σ S1 l1 H1 D w hn (sl.mono a1 b1) c1 e (q.mono a1 b1)
/-- if c: a else: b, and what follows both -/
theorem eb_ifj {tc : TT} {ta tb : TS} {b : Bool} {mA mB : Mr (Jn τ ω)} {g : τ → Gm} {mu : τ → Mm} {k : τ → Mr ω} (h : EvT K tc G Mu Mu1 b) (hA : b = true → EvB K W np ta G Mu1 (jnK g mu κ) mA) (hB : b = false → EvB K W np tb G Mu1 (jnK g mu κ) mB)
    (hl : ∀ s, Mu1.length ≤ (mu s).length) (hR : ∀ s, EvB K W np u (g s) (mu s) κ (k s)) : EvB K W np (tSeq (tIfS tc ta tb) u) G Mu κ ((if b = true then mA else mB) >>= Jn.k k) := fun B σ S ls H D w hn sl hs e q =>
  h B σ S ls H _ sl hs fun S1 l1 H1 a1 b1 c1 => by
    obtain ⟨j, e1, e2⟩ := bind_ok e
    have acc : Acc K W B S1 l1 { D with nx := u D } (jnK g mu κ j) := by
      cases j with
      | go s =>
        intro σ' S' ls' H' sa cm sl' hs'
        have pr : Pre l1 ls' := cm.to_pre (by rw [c1.len, hs'.len]; exact hl s)
        exact hR s B σ' S' ls' H' D w hn sl' hs' e2 (q.mono (a1.trans sa) (b1.trans pr))
      | out w' =>
        cases e2
        refine acc_inn (D := D) ?_ ?_ ?_ (q.mono a1 b1) <;> rfl
    cases b with
    | true =>
      rw [if_pos rfl] at e1
      rw [if_pos rfl]
      exact hA rfl B σ S1 l1 H1 _ j hn (sl.mono a1 b1) c1 e1 acc
    | false =>
      rw [if_neg Bool.false_ne_true] at e1
      rw [if_neg Bool.false_ne_true]
      exact hB rfl B σ S1 l1 H1 _ j hn (sl.mono a1 b1) c1 e1 acc
/-- the last statement of a block -/
theorem eb_ifl {tc : TT} {ta tb : TS} {b : Bool} {mA mB : Mr ω} (h : EvT K tc G Mu Mu1 b) (hA : b = true → EvB K W np ta G Mu1 κ mA) (hB : b = false → EvB K W np tb G Mu1 κ mB) :
    EvB K W np (tSeq (tIfS tc ta tb) tNext) G Mu κ (if b = true then mA else mB) := fun B σ S ls H D w hn sl hs e q =>
  h B σ S ls H _ sl hs fun S1 l1 H1 a1 b1 c1 => by
    cases b with
    | true =>
      rw [if_pos rfl] at e
      rw [if_pos rfl]
      exact hA rfl B σ S1 l1 H1 D w hn (sl.mono a1 b1) c1 e (q.mono a1 b1)
    | false =>
      rw [if_neg Bool.false_ne_true] at e
      rw [if_neg Bool.false_ne_true]
      exact hB rfl B σ S1 l1 H1 D w hn (sl.mono a1 b1) c1 e (q.mono a1 b1)

/-! ### loops -/
def stpK (g : τ → Gm) (mu : τ → Mm) (κ : ω → OS) : Stp τ ω → OS
  | .go s => .nx (g s) (mu s)
  | .cnt s => .ct (g s) (mu s)
  | .brk s => .bk (g s) (mu s)
  | .out w => innerL κ w
/-- what a loop or a comprehension walks: ts, while the cells are as P says -/
def ItOk (K : PySem.W.Frag) (J : It) (S0 : Hp) (ls0 : List Addr) (ts : List TV) (P : Mm → Prop) : Prop :=
  ∀ B i S ls Mu H, Same S0 S → Pre ls0 ls → P Mu → HS K B S ls Mu H →
    (∀ t, ts[i]? = some t → J.go i H ∧ ∀ x H', J.yld i H x H' → ∃ S', Same S S' ∧ HS K B S' ls Mu H' ∧ t.p K S' x ∧ Same H H' ∧ ∀ a o, S' a = some o → S a = some o ∨ H a = none) ∧ (ts.length ≤ i → J.stop i H)
def AftI (K : PySem.W.Frag) (B : Bs) (S : Hp) (ls : List Addr) (Mu : Mm) (ts : List TV) (P : Mm → Prop) (Z : Prop) (R : It → Hp → Prop) : Prop :=
  ∀ J S' ls' H', Same S S' → Pre ls ls' → HS K B S' ls' Mu H' → ItOk K J S' ls' ts P → Z → R J H'
def EvI (K : PySem.W.Frag) (wi : TI) (G : Gm) (Mu Mu' : Mm) (ts : List TV) (P : Mm → Prop) (Z : Prop) : Prop :=
  ∀ B σ S ls H R, Sl K S ls σ G → HS K B S ls Mu H → AftI K B S ls Mu' ts P Z R → wi σ H R
/-- an item goes to its target -/
def EvG (K : PySem.W.Frag) (tg : TG) (s : SV) (G G' : Gm) : Prop :=
  ∀ B v σ S ls Mu H Q, s.p K S ls v → Sl K S ls σ G → HS K B S ls Mu H → (∀ σ', Sl K S ls σ' G' → Q σ' H) → tg v σ H Q
theorem eg_name : EvG K (gName i) s G (G.set i (some s)) := fun B v σ S ls Mu H Q r sl hs q => q _ (sl.set r)
theorem eb_for {α : Type} {R : Rep α} {wi : TI} {tg : TG} {tb : TS} {xs : List α} {P : Mm → Prop} {Z : Prop} {g : τ → Gm} {mu : τ → Mm} {s0 : τ} {f : τ → α → Mr (Stp τ ω)} {k : τ → Mr ω} {Gi : τ → α → Gm}
    (hi : EvI K wi G Mu (mu s0) (xs.map (tv R)) P Z) (hP : ∀ s, P (mu s)) (h0 : GSub (g s0) G) (hl : ∀ s, (mu s).length = (mu s0).length)
    (hg : ∀ s x, EvG K tg (.val (tv R x)) (g s) (Gi s x)) (hb : ∀ s x, EvB K W np tb (Gi s x) (mu s) (stpK g mu κ) (f s x)) (hR : ∀ s, EvB K W np u (g s) (mu s) κ (k s)) :
    EvB K W np (tSeq (tFor wi tg tb) u) G Mu κ (forL xs s0 f >>= Stp.k k) := fun B σ S ls H D w hn sl hs e q =>
  hi B σ S ls H _ sl hs fun J S1 l1 H1 a1 b1 c1 it _ => by
    obtain ⟨r, e1, e2⟩ := bind_ok e
    refine ⟨fun i m σ' H' => m = xs.length - i ∧ i ≤ xs.length ∧ ∃ s S' ls', Same S1 S' ∧ Pre l1 ls' ∧ Sl K S' ls' σ' (g s) ∧ HS K B S' ls' (mu s) H' ∧ forL (xs.drop i) s f = .ok r, ⟨xs.length, by simp, Nat.zero_le _, s0, S1, l1, Same.refl _, Pre.refl _, (sl.mono a1 b1).sub h0, c1, e1⟩, ?_⟩
    rintro i m σ' H' ⟨rfl, hi, s, S', ls', sa, pr, sl', hs', er⟩
    obtain ⟨it1, it2⟩ := it B i S' ls' (mu s) H' sa pr (hP s) hs'
    by_cases hlt : i < xs.length
    · have ei : (xs.map (tv R))[i]? = some (tv R xs[i]) := by simp [hlt]
      obtain ⟨go, yl⟩ := it1 _ ei
      rw [List.drop_eq_getElem_cons hlt] at er
      refine .inr ⟨go, fun σ3 H3 => ∃ s3 S3 ls3, Same S1 S3 ∧ Pre l1 ls3 ∧ Sl K S3 ls3 σ3 (g s3) ∧ HS K B S3 ls3 (mu s3) H3 ∧ forL (xs.drop (i + 1)) s3 f = .ok r, fun σ3 H3 n3 => ⟨xs.length - (i + 1), by omega, rfl, hlt, n3⟩, fun x H2 y => ?_⟩
      obtain ⟨S2, sa2, hs2, rx, _, _⟩ := yl x H2 y
      refine hg s xs[i] B x σ' S2 ls' (mu s) H2 _ rx (sl'.mono sa2 (Pre.refl _)) hs2 fun σ4 sl4 => ?_
      cases ef : f s xs[i] with
      | error z =>
        unfold forL at er
        rw [ef] at er
        cases er
      | ok st =>
        refine hb s xs[i] B σ4 S2 ls' H2 _ st hn sl4 hs2 ef ?_
        have nxt : ∀ s3 σ3 S3 ls3 H3, forL (xs.drop (i + 1)) s3 f = .ok r → Same S2 S3 → Cmp ls' ls3 → Sl K S3 ls3 σ3 (g s3) → HS K B S3 ls3 (mu s3) H3 → ∃ s3 S3 ls3, Same S1 S3 ∧ Pre l1 ls3 ∧ Sl K S3 ls3 σ3 (g s3) ∧ HS K B S3 ls3 (mu s3) H3 ∧ forL (xs.drop (i + 1)) s3 f = .ok r :=
          fun s3 σ3 S3 ls3 H3 er3 sa3 cm sl3 hs3 => by
            have hle : ls'.length ≤ ls3.length := by rw [hs'.len, hs3.len, hl s, hl s3]; exact Nat.le_refl _
            exact ⟨s3, S3, ls3, (sa.trans sa2).trans sa3, pr.trans (cm.to_pre hle), sl3, hs3, er3⟩
        cases st with
        | go s3 =>
          unfold forL at er
          rw [ef] at er
          exact fun σ3 S3 ls3 H3 sa3 cm sl3 hs3 => nxt s3 σ3 S3 ls3 H3 er sa3 cm sl3 hs3
        | cnt s3 =>
          unfold forL at er
          rw [ef] at er
          exact fun σ3 S3 ls3 H3 sa3 cm sl3 hs3 => nxt s3 σ3 S3 ls3 H3 er sa3 cm sl3 hs3
        | brk s3 =>
          unfold forL at er
          rw [ef] at er
          cases er
          refine fun σ3 S3 ls3 H3 sa3 cm sl3 hs3 => ?_
          have hle : ls'.length ≤ ls3.length := by rw [hs'.len, hs3.len, hl s, hl s3]; exact Nat.le_refl _
          exact hR s3 B σ3 S3 ls3 H3 D w hn sl3 hs3 e2 (q.mono (((a1.trans sa).trans sa2).trans sa3) ((b1.trans pr).trans (cm.to_pre hle)))
        | out w' =>
          unfold forL at er
          rw [ef] at er
          cases er
          cases e2
          refine acc_innL (D := D) ?_ ((a1.trans sa).trans sa2) (b1.trans pr) q; rfl
    · have e0 : i = xs.length := by omega
      subst e0
      rw [List.drop_length] at er
      unfold forL at er
      cases er
      exact .inl ⟨it2 (by simp), hR s B σ' S' ls' H' D w hn sl' hs' e2 (q.mono (a1.trans sa) (b1.trans pr))⟩
end
end TL

/-! TL, third part: what is walked, comprehensions, while, promises and calls, built-ins, methods. -/
namespace TL
open PySem L2
def AnyM : Mm → Prop := fun _ => True
def Sm62 (a : Int) : Prop := -(2 ^ 62) ≤ a ∧ a < 2 ^ 62
section
variable {K : PySem.W.Frag} {G : Gm} {Mu Mu1 Mu2 : Mm} {ta : TA} {te tl : TE} {s : SV} {ts : List TV} {k : Knd} {a b : Int} {j : Nat}
/-- a value that is a sequence -/
theorem ei_list (h : EvV K tl G Mu Mu1 (.val (sqT k ts))) (hk : k.isL = true := by rfl) : EvI K (iList K tl) G Mu Mu1 ts AnyM (ts.length ≤ sizeLine) := fun B σ S ls H R sl hs q =>
  h B σ S ls H _ sl hs fun x S1 l1 H1 a1 b1 c1 d1 => by
    obtain ⟨p, vs, e, sq, hz, r⟩ := d1
    subst e
    have sql : SqL K S1 p vs := SqK.seq sq hk
    refine ⟨p, rfl, ⟨vs, Same.seq c1.ex sql⟩, q _ S1 l1 H1 a1 b1 c1 (fun B i S2 l2 M2 H2 sa pr _ hs2 => ?_) (by rw [← Paired.length r]; exact hz)⟩
    have sq2 : SqL K H2 p vs := Same.seq (sa.trans hs2.ex) sql
    refine ⟨fun t et => ?_, fun hl => ⟨vs, sq2, by rw [Paired.length r]; exact hl⟩⟩
    obtain ⟨v, e1, e2⟩ := Paired.get2 r et
    refine ⟨⟨vs, v, sq2, e1⟩, fun x H3 y => ?_⟩
    obtain ⟨e3, y⟩ := y
    subst e3
    have ex : x = v := Option.some.inj ((y vs sq2).symm.trans e1)
    subst ex
    exact ⟨S2, Same.refl _, hs2, t.mono sa e2, Same.refl _, fun a o e => .inl e⟩
theorem ei_tup {k : Knd} (h : EvV K tl G Mu Mu1 (.val (sqT k ts))) (hk : k.isL = false := by rfl) : EvI K (iTup K tl) G Mu Mu1 ts AnyM (ts.length ≤ sizeLine) := fun B σ S ls H R sl hs q =>
  h B σ S ls H _ sl hs fun x S1 l1 H1 a1 b1 c1 d1 => by
    obtain ⟨p, vs, e, sq, hz, r⟩ := d1
    subst e
    have sql : SqT K S1 p vs := SqK.tup sq hk
    refine ⟨p, rfl, ⟨vs, same_seqT c1.ex sql⟩, q _ S1 l1 H1 a1 b1 c1 (fun B i S2 l2 M2 H2 sa pr _ hs2 => ?_) (by rw [← Paired.length r]; exact hz)⟩
    have sq2 : SqT K H2 p vs := same_seqT (sa.trans hs2.ex) sql
    refine ⟨fun t et => ?_, fun hl => ⟨vs, sq2, by rw [Paired.length r]; exact hl⟩⟩
    obtain ⟨v, e1, e2⟩ := Paired.get2 r et
    refine ⟨⟨vs, v, sq2, e1⟩, fun x H3 y => ?_⟩
    obtain ⟨e3, y⟩ := y
    subst e3
    have ex : x = v := Option.some.inj ((y vs sq2).symm.trans e1)
    subst ex
    exact ⟨S2, Same.refl _, hs2, t.mono sa e2, Same.refl _, fun a o e => .inl e⟩
/-- an own cell that the loop leaves as it is -/
theorem ei_cell (oc : Option Addr) (h : EvV K tl G Mu Mu1 (.cell j)) (hm : Mu1[j]? = some (some (pin oc (mL ts)))) : EvI K (iList K tl) G Mu Mu1 ts (fun M => M[j]? = some (some (pin oc (mL ts)))) (ts.length ≤ sizeLine) := fun B σ S ls H R sl hs q =>
  h B σ S ls H _ sl hs fun x S1 l1 H1 a1 b1 c1 d1 => by
    obtain ⟨p, ep, e⟩ := d1
    subst e
    obtain ⟨p', o, e1, _, e3, ⟨vs, eo, hz, r⟩⟩ := c1.cell hm
    rw [ep] at e1
    cases e1
    subst eo
    refine ⟨p, rfl, ⟨vs, SqL.of e3⟩, q _ S1 l1 H1 a1 b1 c1 (fun B i S2 l2 M2 H2 sa pr hP hs2 => ?_) (by rw [← Paired.length r]; exact hz)⟩
    obtain ⟨p2, o2, f1, _, f3, ⟨vs2, fo, hz2, r2⟩⟩ := hs2.cell hP
    rw [pr.get ep] at f1
    cases f1
    subst fo
    have sq2 : SqL K H2 p vs2 := SqL.of f3
    refine ⟨fun t et => ?_, fun hl => ⟨vs2, sq2, by rw [Paired.length r2]; exact hl⟩⟩
    obtain ⟨v, g1, g2⟩ := Paired.get2 r2 et
    refine ⟨⟨vs2, v, sq2, g1⟩, fun x H3 y => ?_⟩
    obtain ⟨e3', y⟩ := y
    subst e3'
    have ex : x = v := Option.some.inj ((y vs2 sq2).symm.trans g1)
    subst ex
    exact ⟨S2, Same.refl _, hs2, g2, Same.refl _, fun a o e => .inl e⟩
theorem rngI_at {i : Nat} {x : Int} (h : (rngI a b)[i]? = some x) : i < (b - a).toNat ∧ x = a + (i : Int) := by
  unfold rngI at h
  rw [List.getElem?_map] at h
  by_cases hi : i < (b - a).toNat
  · rw [List.getElem?_range hi] at h
    exact ⟨hi, (Option.some.inj h).symm⟩
  · rw [List.getElem?_eq_none (by simpa using hi)] at h
    cases h
theorem rngI_lenC : (rngI a b).length = (b - a).toNat := by
  unfold rngI
  rw [List.length_map, List.length_range]
theorem rngD_at {i : Nat} {x : Int} (h : (rngD a b)[i]? = some x) : i < (a - b).toNat ∧ x = a + (i : Int) * (-1) := by
  unfold rngD at h
  rw [List.getElem?_map] at h
  by_cases hi : i < (a - b).toNat
  · rw [List.getElem?_range hi] at h
    exact ⟨hi, (Option.some.inj h).symm⟩
  · rw [List.getElem?_eq_none (by simpa using hi)] at h
    cases h
theorem rngD_len : (rngD a b).length = (a - b).toNat := by
  unfold rngD
  rw [List.length_map, List.length_range]
theorem ok_rng {S : Hp} {ls : List Addr} : ItOk K (Itr a (b - a).toNat) S ls ((rngI a b).map (tv rInt)) AnyM := fun B i S2 l2 M2 H2 sa pr _ hs2 => by
  refine ⟨fun t et => ?_, fun hl => ?_⟩
  · rw [List.getElem?_map] at et
    obtain ⟨x, ex, et⟩ := Option.map_eq_some_iff.mp et
    obtain ⟨hi, hx⟩ := rngI_at ex
    subst et hx
    refine ⟨hi, fun x H3 y => ?_⟩
    obtain ⟨e, y⟩ := y
    subst e y
    exact ⟨S2, Same.refl _, hs2, rfl, Same.refl _, fun a o e => .inl e⟩
  · rw [List.length_map, rngI_lenC] at hl
    exact hl
theorem ei_rng1 (h : EvA K ta G Mu Mu1 [vI b]) (hb : Sm62 b) : EvI K (iRng1 ta) G Mu Mu1 ((rngI 0 b).map (tv rInt)) AnyM True := fun B σ S ls H R sl hs q =>
  h B σ S ls H _ sl hs fun vs S1 l1 H1 a1 b1 c1 d1 => by
    cases d1 with
    | cons r0 r1 =>
      cases r1
      cases r0
      refine ⟨b, rfl, hb.1, hb.2, ?_⟩
      have e : b.toNat = (b - 0).toNat := by rw [Int.sub_zero]
      rw [e]
      exact q _ S1 l1 H1 a1 b1 c1 ok_rng trivial
theorem ei_rng2 (h : EvA K ta G Mu Mu1 [vI a, vI b]) (ha : Sm62 a) (hb : Sm62 b) : EvI K (iRng2 ta) G Mu Mu1 ((rngI a b).map (tv rInt)) AnyM True := fun B σ S ls H R sl hs q =>
  h B σ S ls H _ sl hs fun vs S1 l1 H1 a1 b1 c1 d1 => by
    cases d1 with
    | cons r0 r1 =>
      cases r1 with
      | cons r1 r2 =>
        cases r2
        cases r0
        cases r1
        exact ⟨a, b, rfl, ⟨ha.1, ha.2, hb.1, hb.2⟩, q _ S1 l1 H1 a1 b1 c1 ok_rng trivial⟩
theorem ei_rngD (h : EvA K ta G Mu Mu1 [vI a, vI b, vI (-1)]) (ha : Sm62 a) (hb : Sm62 b) : EvI K (iRng3 ta) G Mu Mu1 ((rngD a b).map (tv rInt)) AnyM True := fun B σ S ls H R sl hs q =>
  h B σ S ls H _ sl hs fun vs S1 l1 H1 a1 b1 c1 d1 => by
    cases d1 with
    | cons r0 r1 =>
      cases r1 with
      | cons r1 r2 =>
        cases r2 with
        | cons r2 r3 =>
          cases r3
          cases r0
          cases r1
          cases r2
          refine ⟨a, b, -1, (a - b).toNat, rfl, RgC.neg ha.1 ha.2 hb.1 hb.2, q _ S1 l1 H1 a1 b1 c1 (fun B i S2 l2 M2 H2 sa pr _ hs2 => ?_) trivial⟩
          refine ⟨fun t et => ?_, fun hl => ?_⟩
          · rw [List.getElem?_map] at et
            obtain ⟨x, ex, et⟩ := Option.map_eq_some_iff.mp et
            obtain ⟨hi, hx⟩ := rngD_at ex
            subst et hx
            refine ⟨hi, fun x H3 y => ?_⟩
            obtain ⟨e, y⟩ := y
            subst e y
            exact ⟨S2, Same.refl _, hs2, rfl, Same.refl _, fun a o e => .inl e⟩
          · rw [List.length_map, rngD_len] at hl
            exact hl
end

/-! ### comprehensions -/
theorem lcR_acc {α β τ : Type} {f : τ → α → Mr (Option β × τ)} : ∀ {xs : List α} {s : τ} {ys : List β} {s2 : τ}, lcR xs s f = .ok (ys, s2) → ys.length ≤ xs.length
  | [], s, ys, s2, h => by
    cases h
    exact Nat.le_refl _
  | x :: xs, s, ys, s2, h => by
    unfold lcR at h
    cases e : f s x with
    | error z =>
      rw [e] at h
      cases h
    | ok r =>
      obtain ⟨o, s1⟩ := r
      rw [e] at h
      dsimp only at h
      cases e2 : lcR xs s1 f with
      | error z =>
        rw [e2] at h
        cases h
      | ok r2 =>
        obtain ⟨zs, s3⟩ := r2
        rw [e2] at h
        cases h
        have := lcR_acc e2
        rw [List.length_append, List.length_cons]
        cases o <;> simp <;> omega
def wipeG (G : Gm) : List Nat → Gm
  | [] => G
  | v :: vs => (wipeG G vs).set v none
theorem slWipe {K : PySem.W.Frag} {S : Hp} {ls : List Addr} {σ : St} {G : Gm} (q : Sl K S ls σ G) : ∀ vs : List Nat, Sl K S ls (wipe σ vs) (wipeG G vs)
  | [] => q
  | v :: vs => by
    have h := slWipe q vs
    refine ⟨by show ((wipe σ vs).set v none).length = ((wipeG G vs).set v none).length; simp [h.1], fun i s e => ?_⟩
    have e : ((wipeG G vs).set v none)[i]? = some (some s) := e
    by_cases hi : v = i
    · subst hi
      by_cases hv : v < (wipeG G vs).length
      · rw [List.getElem?_set_self hv] at e
        cases e
      · rw [List.getElem?_eq_none (by simpa using hv)] at e
        cases e
    · rw [List.getElem?_set_ne hi] at e
      obtain ⟨u, e1, e2⟩ := h.2 i s e
      exact ⟨u, by show ((wipe σ vs).set v none)[i]? = _; rw [List.getElem?_set_ne hi]; exact e1, e2⟩
/-- an item goes to a target whose names are the comprehension's own -/
def EvGo (K : PySem.W.Frag) (tg : TG) (vs : List Nat) (s : SV) (G G' : Gm) : Prop :=
  ∀ B v σ S ls Mu H Q, s.p K S ls v → Sl K S ls (wipe σ vs) G → HS K B S ls Mu H → (∀ σ', wipe σ' vs = wipe σ vs → Sl K S ls σ' G' → Q σ' H) → tg v (wipe σ vs) H Q
theorem wipe_set {σ : St} {i : Nat} {v : Option V} : wipe ((wipe σ [i]).set i v) [i] = wipe σ [i] := by
  show (List.set (List.set (List.set σ i none) i v) i none) = List.set σ i none
  rw [List.set_set, List.set_set]
theorem ego_name {K : PySem.W.Frag} {i : Nat} {s : SV} {G : Gm} : EvGo K (gName i) [i] s G (G.set i (some s)) := fun B v σ S ls Mu H Q r sl hs q => q _ wipe_set (sl.set r)
section
variable {K : PySem.W.Frag} {G : Gm} {Mu Mu1 Mu2 : Mm} {te : TE} {tt : TT} {α β τ : Type} {R : Rep α} {R' : Rep β} {wi : TI} {tg : TG} {xs : List α} {P : Mm → Prop} {Z : Prop} {vs : List Nat}
theorem ef_lc {mu : τ → Mm} {s0 s2 : τ} {ys : List β} {f : τ → α → Mr (Option β × τ)} {Gi : α → Gm} (hi : EvI K wi G Mu (mu s0) (xs.map (tv R)) P Z) (hz : Z → xs.length ≤ sizeLine) (hP : ∀ s, P (mu s)) (hl : ∀ s, (mu s).length = (mu s0).length)
    (hg : ∀ x, EvGo K tg vs (.val (tv R x)) (wipeG G vs) (Gi x))
    (hb : ∀ s x o s', f s x = .ok (o, s') → ∃ b M1, EvT K tt (Gi x) (mu s) M1 b ∧ (b = true → ∃ y, o = some y ∧ EvV K te (Gi x) M1 (mu s') (.val (tv R' y))) ∧ (b = false → o = none ∧ M1 = mu s'))
    (hr : lcR xs s0 f = .ok (ys, s2)) : EvF K (tLc wi tg tt te vs) G Mu (mu s2) (mL (ys.map (tv R'))) := fun B σ S ls H Q sl hs q =>
  hi B σ S ls H _ sl hs fun J S1 l1 H1 a1 b1 c1 it hZ D hD => by
    have hz := hz hZ
    have slw : Sl K S1 l1 (wipe σ vs) (wipeG G vs) := slWipe (sl.mono a1 b1) vs
    have ll : ∀ s, l1.length = (mu s).length := fun s => by rw [c1.len, hl s]
    refine ⟨fun i m H' => m = xs.length - i ∧ i ≤ xs.length ∧ ∃ (s : τ) (S' : Hp) (zs : List β), Same S1 S' ∧ HS K B S' (l1 ++ [D]) (mu s ++ [some (mL (zs.map (tv R')))]) H' ∧ zs.length ≤ i ∧ ∃ ws, lcR (xs.drop i) s f = Except.ok (ws, s2) ∧ ys = zs ++ ws,
      ⟨xs.length, by simp, Nat.zero_le _, s0, S1, [], Same.refl _, c1.push hD ⟨[], rfl, Nat.zero_le _, .nil⟩, Nat.le_refl _, ys, hr, rfl⟩, ?_⟩
    rintro i m H' ⟨rfl, hi, s, S', zs, sa, hs', hacc, ws, er, ey⟩
    obtain ⟨C, hf, back⟩ := hs'.frame (ll s) c1.c0
    obtain ⟨it1, it2⟩ := it _ i S' l1 (mu s) H' sa (Pre.refl _) (hP s) hf
    by_cases hlt : i < xs.length
    · have ei : (xs.map (tv R))[i]? = some (tv R xs[i]) := by simp [hlt]
      obtain ⟨go, yl⟩ := it1 _ ei
      rw [List.drop_eq_getElem_cons hlt] at er
      unfold lcR at er
      cases ef : f s xs[i] with
      | error z =>
        rw [ef] at er
        cases er
      | ok rr =>
        obtain ⟨o, s1⟩ := rr
        rw [ef] at er
        dsimp only at er
        cases e2 : lcR (xs.drop (i + 1)) s1 f with
        | error z =>
          rw [e2] at er
          cases er
        | ok r2 =>
          obtain ⟨ws2, s3⟩ := r2
          rw [e2] at er
          cases er
          refine .inr ⟨go, fun H3 => ∃ (s : τ) (S' : Hp) (zs : List β), Same S1 S' ∧ HS K B S' (l1 ++ [D]) (mu s ++ [some (mL (zs.map (tv R')))]) H3 ∧ zs.length ≤ i + 1 ∧ ∃ ws, lcR (xs.drop (i + 1)) s f = .ok (ws, s2) ∧ ys = zs ++ ws, fun H3 n3 => ⟨xs.length - (i + 1), by omega, rfl, hlt, n3⟩, fun x H2 y => ?_⟩
          obtain ⟨S2, sa2, hs2, rx, sH, nw⟩ := yl x H2 y
          have same_l : ∀ {l4 : List Addr} {s' : τ} {S4 H4 : Hp}, HS K ⟨H', S', l1, C⟩ S4 l4 (mu s') H4 → l4 = l1 := fun {l4 s' S4 H4} c4 => by
            obtain ⟨more, e4⟩ := c4.c0
            have h1 := c4.len
            have h4 := ll s'
            have e4 : l4 = l1 ++ more := e4
            rw [e4, List.length_append] at h1
            have : more = [] := List.eq_nil_of_length_eq_zero (by omega)
            rw [e4, this, List.append_nil]
          refine hg xs[i] ⟨H', S', l1, C⟩ x σ S2 l1 (mu s) H2 _ rx (slw.mono (sa.trans sa2) (Pre.refl _)) hs2 fun σ4 ew sl4 => ⟨ew, ?_⟩
          obtain ⟨b, M1, ht, hy, hn⟩ := hb s xs[i] o s1 ef
          refine ht ⟨H', S', l1, C⟩ σ4 S2 l1 H2 _ sl4 hs2 fun S3 l3 H3 a3 b3 c3 => ?_
          cases b with
          | true =>
            rw [if_pos rfl]
            obtain ⟨y', eo, hv⟩ := hy rfl
            subst eo
            refine hv ⟨H', S', l1, C⟩ σ4 S3 l3 H3 _ (sl4.mono a3 b3) c3 fun v S4 l4 H4 a4 b4 c4 d4 => ?_
            have e4 := same_l c4
            subst e4
            have sa4 : Same S' S4 := (sa2.trans a3).trans a4
            have hB := back S4 (mu s1) H4 c4
            have eD : (l4 ++ [D])[(mu s1).length]? = some D := by rw [← ll s1]; simp
            obtain ⟨a', o', f1, _, f3, ⟨acc, fo, fz, fr⟩⟩ := hB.cell (k := (mu s1).length) (c := none) (fm := fL (zs.map (tv R'))) (by simp [pin])
            rw [eD] at f1
            cases f1
            subst fo
            have hzz : acc.length < sizeLine := by
              rw [Paired.length fr, List.length_map]
              omega
            have hW := hB.write (k := (mu s1).length) (c := none) (fm := fL (zs.map (tv R'))) (fm' := fL ((zs ++ [y']).map (tv R'))) (o' := .lst (acc ++ [v])) (by simp [pin]) eD ⟨acc ++ [v], rfl, by rw [List.length_append]; exact hzz, by rw [List.map_append]; exact Paired.app fr (.cons d4 .nil)⟩
            have e3 : ∀ z : Option MV, (mu s1 ++ [some (mL (zs.map (tv R')))]).set (mu s1).length z = mu s1 ++ [z] := fun z => by simp
            simp only [pin] at hW
            rw [e3] at hW
            exact ⟨acc, f3, hzz, s1, S4, zs ++ [y'], sa.trans sa4, hW, by rw [List.length_append, List.length_singleton]; omega, ws2, e2, by rw [ey]; simp⟩
          | false =>
            rw [if_neg Bool.false_ne_true]
            obtain ⟨eo, eM⟩ := hn rfl
            subst eo eM
            have e4 := same_l c3
            subst e4
            have sa4 : Same S' S3 := sa2.trans a3
            exact ⟨s1, S3, zs, sa.trans sa4, back S3 (mu s1) H3 c3, by omega, ws2, e2, by rw [ey]; simp⟩
    · have e0 : i = xs.length := by omega
      subst e0
      rw [List.drop_length] at er
      unfold lcR at er
      cases er
      rw [List.append_nil] at ey
      subst ey
      refine .inl ⟨it2 (by simp), q _ S' (l1 ++ [D]) H' (a1.trans sa) b1.app hs' ⟨D, by rw [← ll s2]; simp, rfl⟩⟩
end
end TL

/-! TL, fourth part: comprehensions in short, while, promises and calls, built-ins, methods. -/
namespace TL
open PySem L2
/-! ### comprehensions in short -/
theorem et_yes {K : PySem.W.Frag} {G : Gm} {Mu : Mm} : EvT K tYes G Mu Mu true := fun B σ S ls H Q sl hs q => q S ls H (Same.refl _) (Pre.refl _) hs
section
variable {K : PySem.W.Frag} {G : Gm} {Mu Mu1 Mu2 : Mm} {te : TE} {tt : TT} {α β τ : Type} {R : Rep α} {R' : Rep β} {wi : TI} {tg : TG} {xs : List α} {P : Mm → Prop} {Z : Prop} {vs : List Nat} {Gi : α → Gm}
theorem lcR_map {h : α → β} : ∀ xs : List α, lcR xs () (fun _ x => .ok (some (h x), ())) = .ok (xs.map h, ())
  | [] => rfl
  | x :: xs => by
    unfold lcR
    dsimp only
    rw [lcR_map xs]
    rfl
theorem ef_map {h : α → β} (hi : EvI K wi G Mu Mu1 (xs.map (tv R)) P Z) (hz : Z → xs.length ≤ sizeLine) (hP : P Mu1) (hg : ∀ x, EvGo K tg vs (.val (tv R x)) (wipeG G vs) (Gi x))
    (hb : ∀ x, EvV K te (Gi x) Mu1 Mu1 (.val (tv R' (h x)))) : EvF K (tLc wi tg tYes te vs) G Mu Mu1 (mL ((xs.map h).map (tv R'))) :=
  ef_lc (mu := fun _ : Unit => Mu1) (s0 := ()) (s2 := ()) (f := fun _ x => .ok (some (h x), ())) hi hz (fun _ => hP) (fun _ => rfl) hg (fun s x o s' e => by
    cases e
    exact ⟨true, Mu1, et_yes, fun _ => ⟨_, rfl, hb x⟩, fun z => nomatch z⟩) (lcR_map xs)
theorem lcR_mapR {h : α → Mr β} : ∀ {xs : List α} {ys : List β}, mapR h xs = .ok ys → lcR xs () (fun _ x => match h x with | .error e => .error e | .ok y => .ok (some y, ())) = .ok (ys, ())
  | [], ys, e => by
    cases e
    rfl
  | x :: xs, ys, e => by
    unfold mapR at e
    cases q : h x with
    | error z => rw [q] at e; cases e
    | ok y =>
      rw [q] at e
      dsimp only at e
      cases q2 : mapR h xs with
      | error z => rw [q2] at e; cases e
      | ok zs =>
        rw [q2] at e
        cases e
        unfold lcR
        dsimp only
        rw [q]
        dsimp only
        rw [lcR_mapR q2]
        rfl
theorem ef_mapR {h : α → Mr β} {ys : List β} (hi : EvI K wi G Mu Mu1 (xs.map (tv R)) P Z) (hz : Z → xs.length ≤ sizeLine) (hP : P Mu1) (hg : ∀ x, EvGo K tg vs (.val (tv R x)) (wipeG G vs) (Gi x))
    (hb : ∀ x y, h x = .ok y → EvV K te (Gi x) Mu1 Mu1 (.val (tv R' y))) (hr : mapR h xs = .ok ys) : EvF K (tLc wi tg tYes te vs) G Mu Mu1 (mL (ys.map (tv R'))) :=
  ef_lc (mu := fun _ : Unit => Mu1) (s0 := ()) (s2 := ()) (f := fun _ x => match h x with | .error e => .error e | .ok y => .ok (some y, ())) hi hz (fun _ => hP) (fun _ => rfl) hg (fun s x o s' e => by
    cases q : h x with
    | error z => rw [q] at e; cases e
    | ok y =>
      rw [q] at e
      cases e
      exact ⟨true, Mu1, et_yes, fun _ => ⟨_, rfl, hb x y q⟩, fun z => nomatch z⟩) (lcR_mapR hr)
theorem lcR_mapS {f : τ → α → Mr (β × τ)} : ∀ {xs : List α} {s s2 : τ} {ys : List β}, mapS f xs s = .ok (ys, s2) → lcR xs s (fun s x => match f s x with | .error e => .error e | .ok (y, s1) => .ok (some y, s1)) = .ok (ys, s2)
  | [], s, s2, ys, e => by
    cases e
    rfl
  | x :: xs, s, s2, ys, e => by
    unfold mapS at e
    cases q : f s x with
    | error z => rw [q] at e; cases e
    | ok r =>
      obtain ⟨y, s1⟩ := r
      rw [q] at e
      dsimp only at e
      cases q2 : mapS f xs s1 with
      | error z => rw [q2] at e; cases e
      | ok r2 =>
        obtain ⟨zs, s3⟩ := r2
        rw [q2] at e
        cases e
        unfold lcR
        dsimp only
        rw [q]
        dsimp only
        rw [lcR_mapS q2]
        rfl
theorem ef_mapS {mu : τ → Mm} {s0 s2 : τ} {ys : List β} {f : τ → α → Mr (β × τ)} (hi : EvI K wi G Mu (mu s0) (xs.map (tv R)) P Z) (hz : Z → xs.length ≤ sizeLine) (hP : ∀ s, P (mu s)) (hl : ∀ s, (mu s).length = (mu s0).length)
    (hg : ∀ x, EvGo K tg vs (.val (tv R x)) (wipeG G vs) (Gi x)) (hb : ∀ s x y s', f s x = .ok (y, s') → EvV K te (Gi x) (mu s) (mu s') (.val (tv R' y)))
    (hr : mapS f xs s0 = .ok (ys, s2)) : EvF K (tLc wi tg tYes te vs) G Mu (mu s2) (mL (ys.map (tv R'))) :=
  ef_lc (mu := mu) (s0 := s0) (s2 := s2) (f := fun s x => match f s x with | .error e => .error e | .ok (y, s1) => .ok (some y, s1)) hi hz hP hl hg (fun s x o s' e => by
    cases q : f s x with
    | error z => rw [q] at e; cases e
    | ok r =>
      obtain ⟨y, s1⟩ := r
      rw [q] at e
      cases e
      exact ⟨true, mu s, et_yes, fun _ => ⟨_, rfl, hb s x y _ q⟩, fun z => nomatch z⟩) (lcR_mapS hr)
theorem lcR_fil {b : α → Bool} {h : α → β} : ∀ xs : List α, lcR xs () (fun _ x => .ok (if b x = true then some (h x) else none, ())) = .ok ((xs.filter b).map h, ())
  | [] => rfl
  | x :: xs => by
    unfold lcR
    dsimp only
    rw [lcR_fil xs, List.filter_cons]
    by_cases e : b x = true
    · rw [if_pos e, if_pos e]
      rfl
    · rw [if_neg e, if_neg e]
      rfl
theorem ef_fil {b : α → Bool} {h : α → β} (hi : EvI K wi G Mu Mu1 (xs.map (tv R)) P Z) (hz : Z → xs.length ≤ sizeLine) (hP : P Mu1) (hg : ∀ x, EvGo K tg vs (.val (tv R x)) (wipeG G vs) (Gi x))
    (ht : ∀ x, EvT K tt (Gi x) Mu1 Mu1 (b x)) (hb : ∀ x, b x = true → EvV K te (Gi x) Mu1 Mu1 (.val (tv R' (h x)))) : EvF K (tLc wi tg tt te vs) G Mu Mu1 (mL (((xs.filter b).map h).map (tv R'))) :=
  ef_lc (mu := fun _ : Unit => Mu1) (s0 := ()) (s2 := ()) (f := fun _ x => .ok (if b x = true then some (h x) else none, ())) hi hz (fun _ => hP) (fun _ => rfl) hg (fun s x o s' e => by
    cases e
    refine ⟨b x, Mu1, ht x, fun z => ⟨h x, by rw [if_pos z], hb x z⟩, fun z => ⟨by rw [if_neg (by rw [z]; exact Bool.false_ne_true)], rfl⟩⟩) (lcR_fil xs)
theorem lcR_filR {f : α → Mr (Option β)} : ∀ {xs : List α} {ys : List β}, filR f xs = .ok ys → lcR xs () (fun _ x => match f x with | .error e => .error e | .ok o => .ok (o, ())) = .ok (ys, ())
  | [], ys, e => by
    cases e
    rfl
  | x :: xs, ys, e => by
    unfold filR at e
    cases q : f x with
    | error z => rw [q] at e; cases e
    | ok y =>
      rw [q] at e
      dsimp only at e
      cases q2 : filR f xs with
      | error z => rw [q2] at e; cases e
      | ok zs =>
        rw [q2] at e
        cases e
        unfold lcR
        dsimp only
        rw [q]
        dsimp only
        rw [lcR_filR q2]
/-- test and element may stop short -/
theorem ef_filR {f : α → Mr (Option β)} {ys : List β} (hi : EvI K wi G Mu Mu1 (xs.map (tv R)) P Z) (hz : Z → xs.length ≤ sizeLine) (hP : P Mu1) (hg : ∀ x, EvGo K tg vs (.val (tv R x)) (wipeG G vs) (Gi x))
    (hb : ∀ x o, f x = .ok o → ∃ b, EvT K tt (Gi x) Mu1 Mu1 b ∧ (b = true → ∃ y, o = some y ∧ EvV K te (Gi x) Mu1 Mu1 (.val (tv R' y))) ∧ (b = false → o = none)) (hr : filR f xs = .ok ys) : EvF K (tLc wi tg tt te vs) G Mu Mu1 (mL (ys.map (tv R'))) :=
  ef_lc (mu := fun _ : Unit => Mu1) (s0 := ()) (s2 := ()) (f := fun _ x => match f x with | .error e => .error e | .ok o => .ok (o, ())) hi hz (fun _ => hP) (fun _ => rfl) hg (fun s x o s' e => by
    cases q : f x with
    | error z => rw [q] at e; cases e
    | ok y =>
      rw [q] at e
      cases e
      obtain ⟨b, h1, h2, h3⟩ := hb x o q
      exact ⟨b, Mu1, h1, h2, fun z => ⟨h3 z, rfl⟩⟩) (lcR_filR hr)
end

/-! ### while -/
section
variable {ω τ : Type} {K : PySem.W.Frag} {W : Xw} {np : Nat} {G : Gm} {Mu : Mm} {κ : ω → OS} {u tb : TS} {tc : TT}
theorem eb_while {g : τ → Gm} {mu : τ → Mm} {s0 : τ} {n : Nat} {c : τ → Mr Bool} {f : τ → Mr (Stp τ ω)} {k : τ → Mr ω} (hM : Mu = mu s0) (h0 : GSub (g s0) G) (hl : ∀ s, (mu s).length = (mu s0).length)
    (hc : ∀ s b, c s = .ok b → EvT K tc (g s) (mu s) (mu s) b) (hb : ∀ s, c s = .ok true → EvB K W np tb (g s) (mu s) (stpK g mu κ) (f s)) (hR : ∀ s, EvB K W np u (g s) (mu s) κ (k s)) :
    EvB K W np (tSeq (tWhile tc tb) u) G Mu κ (whileL c f n s0 >>= Stp.k k) := fun B σ S ls H D w hn sl hs e q => by
  obtain ⟨r, e1, e2⟩ := bind_ok e
  subst hM
  refine ⟨fun m σ' H' => ∃ (s : τ) (S' : Hp) (ls' : List Addr), Same S S' ∧ Pre ls ls' ∧ Sl K S' ls' σ' (g s) ∧ HS K B S' ls' (mu s) H' ∧ whileL c f m s = Except.ok r, ⟨n, s0, S, ls, Same.refl _, Pre.refl _, sl.sub h0, hs, e1⟩, ?_⟩
  rintro m σ' H' ⟨s, S', ls', sa, pr, sl', hs', er⟩
  cases m with
  | zero => cases er
  | succ m =>
    unfold whileL at er
    cases ec : c s with
    | error z => rw [ec] at er; cases er
    | ok b =>
      rw [ec] at er
      refine hc s b ec B σ' S' ls' H' _ sl' hs' fun S2 l2 H2 a2 b2 c2 => ?_
      cases b with
      | false =>
        cases er
        rw [if_neg Bool.false_ne_true]
        exact hR s B σ' S2 l2 H2 D w hn (sl'.mono a2 b2) c2 e2 (q.mono (sa.trans a2) (pr.trans b2))
      | true =>
        rw [if_pos rfl]
        dsimp only at er
        refine ⟨fun σ3 H3 => ∃ (s3 : τ) (S3 : Hp) (ls3 : List Addr), Same S S3 ∧ Pre ls ls3 ∧ Sl K S3 ls3 σ3 (g s3) ∧ HS K B S3 ls3 (mu s3) H3 ∧ whileL c f m s3 = Except.ok r, fun σ3 H3 n3 => ⟨m, by omega, n3⟩, ?_⟩
        cases ef : f s with
        | error z => rw [ef] at er; cases er
        | ok st =>
          rw [ef] at er
          refine hb s ec B σ' S2 l2 H2 _ st hn (sl'.mono a2 b2) c2 ef ?_
          have prf : ∀ {s3 : τ} {ls3 : List Addr} {S3 H3 : Hp}, Cmp l2 ls3 → HS K B S3 ls3 (mu s3) H3 → Pre ls ls3 := fun {s3 ls3 S3 H3} cm hs3 =>
            (pr.trans b2).trans (cm.to_pre (by rw [c2.len, hs3.len, hl s, hl s3]; exact Nat.le_refl _))
          cases st with
          | go s3 => exact fun σ3 S3 ls3 H3 sa3 cm sl3 hs3 => ⟨s3, S3, ls3, (sa.trans a2).trans sa3, prf cm hs3, sl3, hs3, er⟩
          | cnt s3 => exact fun σ3 S3 ls3 H3 sa3 cm sl3 hs3 => ⟨s3, S3, ls3, (sa.trans a2).trans sa3, prf cm hs3, sl3, hs3, er⟩
          | brk s3 =>
            cases er
            exact fun σ3 S3 ls3 H3 sa3 cm sl3 hs3 => hR s3 B σ3 S3 ls3 H3 D w hn sl3 hs3 e2 (q.mono ((sa.trans a2).trans sa3) (prf cm hs3))
          | out w' =>
            cases er
            cases e2
            refine acc_innL (D := D) ?_ ((sa.trans a2)) (pr.trans b2) q
            rfl
end

/-! ### promises -/
/-- what a def does: its arguments, its callers' cells that it is given, its mirror, its outcome -/
structure FS (ι ω : Type) where
  ins : ι → List SV
  cells : ι → Mm
  m : ι → Mr ω
  out : ι → ω → OS
def spT {ι ω : Type} (K : PySem.W.Frag) (T : List XcD) (F : FS ι ω) : Sp := fun vs H Q E => ∃ (x : ι) (w : ω) (S : Hp) (ls : List Addr) (C : FP), F.m x = .ok w ∧ HS K ⟨H, S, ls, C⟩ S ls (F.cells x) H ∧ AllS K S ls vs (F.ins x) ∧
  Acc K ⟨T, fun cls d _ H' => E cls d H'⟩ ⟨H, S, ls, C⟩ S ls { nx := fun _ H' => Q .non H', rt := Q } (F.out x w)
/-- a promise that covers another -/
def SpLe (a b : Sp) : Prop := ∀ vs H Q E, a vs H Q E → b vs H Q E
def spOr (a b : Sp) : Sp := fun vs H Q E => a vs H Q E ∨ b vs H Q E
theorem SpLe.l {a b : Sp} : SpLe a (spOr a b) := fun _ _ _ _ h => .inl h
theorem SpLe.r {a b c : Sp} (h : SpLe a b) : SpLe a (spOr c b) := fun _ _ _ _ z => .inr (h _ _ _ _ z)
theorem SpLe.refl {a : Sp} : SpLe a a := fun _ _ _ _ h => h
theorem sp_len {ι ω : Type} {K : PySem.W.Frag} {T : List XcD} {F : FS ι ω} {n : Nat} (h : ∀ x, (F.ins x).length = n) (vs : List V) (H : Hp) (Q : VK) (E : XK) (q : spT K T F vs H Q E) : vs.length = n := by
  obtain ⟨x, w, S, ls, C, _, _, r, _⟩ := q
  rw [Paired.length r, h x]
/-- the slots at a def's entry -/
def startG (N : Nat) (ss : List SV) : Gm := ss.map some ++ List.replicate (N - ss.length) none
theorem sl_start {K : PySem.W.Frag} {S : Hp} {ls : List Addr} {N : List Str} {vs : List V} {ss : List SV} (r : AllS K S ls vs ss) : Sl K S ls (L2.start N vs) (startG N.length ss) := by
  have hl := Paired.length r
  refine ⟨by unfold L2.start startG; simp [hl], fun i s e => ?_⟩
  unfold startG at e
  by_cases hi : i < ss.length
  · rw [List.getElem?_append_left (by simpa using hi), List.getElem?_map] at e
    obtain ⟨s', e1, e2⟩ := Option.map_eq_some_iff.mp e
    cases e2
    obtain ⟨v, f1, f2⟩ := Paired.get2 r e1
    refine ⟨v, ?_, f2⟩
    unfold L2.start
    rw [List.getElem?_append_left (by simp; omega), List.getElem?_map, f1]
    rfl
  · rw [List.getElem?_append_right (by simpa using hi), List.getElem?_replicate] at e
    split at e <;> cases e
/-- a def's body keeps its promise -/
theorem sp_body {ι ω : Type} {K : PySem.W.Frag} {T : List XcD} {F : FS ι ω} {N : List Str} {vs : List V} {H : Hp} {Q : VK} {E : XK} {t : TS} (q : spT K T F vs H Q E)
    (h : ∀ x, EvB K ⟨T, fun cls d _ H' => E cls d H'⟩ (F.cells x).length t (startG N.length (F.ins x)) (F.cells x) (F.out x) (F.m x)) : t { nx := fun _ H' => Q .non H', rt := Q } (L2.start N vs) H := by
  obtain ⟨x, w, S, ls, C, e, hs, r, acc⟩ := q
  exact h x ⟨H, S, ls, C⟩ (L2.start N vs) S ls H _ w hs.len (sl_start r) hs e acc

/-! ### what raises -/
def AftX (K : PySem.W.Frag) (W : Xw) (B : Bs) (S : Hp) (ls : List Addr) (Mu : Mm) (x : Xc) (σ : St) : Prop :=
  ∀ S' ls' H' cls d, Same S S' → Pre ls ls' → HS K B S' ls' Mu H' → XIs K W.T S' x cls d → W.W cls d σ H'
theorem AftX.mono {K : PySem.W.Frag} {W : Xw} {B : Bs} {S S1 : Hp} {ls ls1 : List Addr} {Mu : Mm} {x : Xc} {σ : St} (h : Same S S1) (g : Pre ls ls1) (q : AftX K W B S ls Mu x σ) : AftX K W B S1 ls1 Mu x σ :=
  fun S' ls' H' cls d a b => q S' ls' H' cls d (h.trans a) (g.trans b)
def EvX (K : PySem.W.Frag) (W : Xw) (te : TE) (G : Gm) (Mu Mu' : Mm) (x : Xc) : Prop :=
  ∀ B σ S ls H Q, Sl K S ls σ G → HS K B S ls Mu H → AftX K W B S ls Mu' x σ → te σ H Q
def EvXA (K : PySem.W.Frag) (W : Xw) (ta : TA) (G : Gm) (Mu Mu' : Mm) (x : Xc) : Prop :=
  ∀ B σ S ls H Q, Sl K S ls σ G → HS K B S ls Mu H → AftX K W B S ls Mu' x σ → ta σ H Q
def EvXT (K : PySem.W.Frag) (W : Xw) (tt : TT) (G : Gm) (Mu Mu' : Mm) (x : Xc) : Prop :=
  ∀ B σ S ls H Q, Sl K S ls σ G → HS K B S ls Mu H → AftX K W B S ls Mu' x σ → tt σ H Q
def EvXI (K : PySem.W.Frag) (W : Xw) (wi : TI) (G : Gm) (Mu Mu' : Mm) (x : Xc) : Prop :=
  ∀ B σ S ls H R, Sl K S ls σ G → HS K B S ls Mu H → AftX K W B S ls Mu' x σ → wi σ H R
def EvXS (K : PySem.W.Frag) (W : Xw) (t : TS) (G : Gm) (Mu Mu' : Mm) (x : Xc) : Prop :=
  ∀ B σ S ls H D, Sl K S ls σ G → HS K B S ls Mu H → AftX K W B S ls Mu' x σ → t D σ H
section
variable {ω : Type} {K : PySem.W.Frag} {W : Xw} {np : Nat} {G : Gm} {Mu Mu1 Mu2 : Mm} {κ : ω → OS} {w : ω} {x : Xc} {te ta tb : TE} {tr : TA} {tt tu : TT} {u sA sB : TS} {s sa : SV} {wi : TI} {tg : TG} {b : Bool}
theorem ex_op1 {r : R2} (h : EvX K W ta G Mu Mu1 x) : EvX K W (tOp r ta tb) G Mu Mu1 x := fun B σ S ls H Q sl hs q => h B σ S ls H _ sl hs q
theorem ex_op2 {r : R2} (ha : EvV K ta G Mu Mu1 sa) (h : EvX K W tb G Mu1 Mu2 x) : EvX K W (tOp r ta tb) G Mu Mu2 x := fun B σ S ls H Q sl hs q =>
  ha B σ S ls H _ sl hs fun v S1 l1 H1 a1 b1 c1 d1 => h B σ S1 l1 H1 _ (sl.mono a1 b1) c1 (q.mono a1 b1)
theorem ex_un {r : V → Hp → VK → Prop} (h : EvX K W ta G Mu Mu1 x) : EvX K W (tUn r ta) G Mu Mu1 x := fun B σ S ls H Q sl hs q => h B σ S ls H _ sl hs q
theorem xa_cons1 (h : EvX K W te G Mu Mu1 x) : EvXA K W (tCons te tr) G Mu Mu1 x := fun B σ S ls H Q sl hs q => h B σ S ls H _ sl hs q
theorem xa_cons2 (ha : EvV K te G Mu Mu1 s) (h : EvXA K W tr G Mu1 Mu2 x) : EvXA K W (tCons te tr) G Mu Mu2 x := fun B σ S ls H Q sl hs q =>
  ha B σ S ls H _ sl hs fun v S1 l1 H1 a1 b1 c1 d1 => h B σ S1 l1 H1 _ (sl.mono a1 b1) c1 (q.mono a1 b1)
theorem ex_cb {r : List V → Hp → VK → Prop} (h : EvXA K W tr G Mu Mu1 x) : EvX K W (tCB r tr) G Mu Mu1 x := fun B σ S ls H Q sl hs q => h B σ S ls H _ sl hs q
theorem ex_tup (h : EvXA K W tr G Mu Mu1 x) : EvX K W (tTup tr) G Mu Mu1 x := fun B σ S ls H Q sl hs q => h B σ S ls H _ sl hs q
theorem ex_lst (h : EvXA K W tr G Mu Mu1 x) : EvX K W (tLst tr) G Mu Mu1 x := fun B σ S ls H Q sl hs q => h B σ S ls H _ sl hs q
theorem ex_notV (h : EvX K W ta G Mu Mu1 x) : EvX K W (tNotV ta) G Mu Mu1 x := fun B σ S ls H Q sl hs q => h B σ S ls H _ sl hs q
theorem xt_test (h : EvX K W ta G Mu Mu1 x) : EvXT K W (tTest ta) G Mu Mu1 x := fun B σ S ls H Q sl hs q => h B σ S ls H _ sl hs q
theorem xt_B (h : EvX K W ta G Mu Mu1 x) : EvXT K W (tB ta) G Mu Mu1 x := fun B σ S ls H Q sl hs q => h B σ S ls H _ sl hs q
theorem xt_not (h : EvXT K W tt G Mu Mu1 x) : EvXT K W (tNot tt) G Mu Mu1 x := fun B σ S ls H Q sl hs q => h B σ S ls H _ sl hs q
theorem xt_and1 (h : EvXT K W tt G Mu Mu1 x) : EvXT K W (tAnd tt tu) G Mu Mu1 x := fun B σ S ls H Q sl hs q => h B σ S ls H _ sl hs q
theorem xt_or1 (h : EvXT K W tt G Mu Mu1 x) : EvXT K W (tOr tt tu) G Mu Mu1 x := fun B σ S ls H Q sl hs q => h B σ S ls H _ sl hs q
theorem xt_and2 (ha : EvT K tt G Mu Mu1 b) (e : b = true) (h : EvXT K W tu G Mu1 Mu2 x) : EvXT K W (tAnd tt tu) G Mu Mu2 x := fun B σ S ls H Q sl hs q =>
  ha B σ S ls H _ sl hs fun S1 l1 H1 a1 b1 c1 => by
    subst e
    exact h B σ S1 l1 H1 _ (sl.mono a1 b1) c1 (q.mono a1 b1)
theorem xt_or2 (ha : EvT K tt G Mu Mu1 b) (e : b = false) (h : EvXT K W tu G Mu1 Mu2 x) : EvXT K W (tOr tt tu) G Mu Mu2 x := fun B σ S ls H Q sl hs q =>
  ha B σ S ls H _ sl hs fun S1 l1 H1 a1 b1 c1 => by
    subst e
    exact h B σ S1 l1 H1 _ (sl.mono a1 b1) c1 (q.mono a1 b1)
theorem xs_asg (h : EvX K W te G Mu Mu1 x) : EvXS K W (tSeq (tAsg te tg) u) G Mu Mu1 x := fun B σ S ls H D sl hs q => h B σ S ls H _ sl hs q
theorem xs_drop (h : EvX K W te G Mu Mu1 x) : EvXS K W (tSeq (tDrop te) u) G Mu Mu1 x := fun B σ S ls H D sl hs q => h B σ S ls H _ sl hs q
theorem xs_ret (h : EvX K W te G Mu Mu1 x) : EvXS K W (tSeq (tRet te) u) G Mu Mu1 x := fun B σ S ls H D sl hs q => h B σ S ls H _ sl hs q
theorem xs_if (h : EvXT K W tt G Mu Mu1 x) : EvXS K W (tSeq (tIfS tt sA sB) u) G Mu Mu1 x := fun B σ S ls H D sl hs q => h B σ S ls H _ sl hs q
theorem xs_for (h : EvXI K W wi G Mu Mu1 x) : EvXS K W (tSeq (tFor wi tg sB) u) G Mu Mu1 x := fun B σ S ls H D sl hs q => h B σ S ls H _ sl hs q
def GSubO : Option Gm → Gm → Prop
  | none, _ => True
  | some G', G => GSub G' G
/-- a statement that raises -/
theorem eb_ex {t : TS} {g : Option Gm} {Mp Mj : Mm} (h : EvXS K W t G Mu Mu1 x) (hκ : κ w = .ex x g Mp) (hM : Mu1 = Mp ++ Mj) (hg : GSubO g G := by trivial) : EvB K W np t G Mu κ (.ok w) := fun B σ S ls H D w' hn sl hs e q => by
  cases e
  rw [hκ] at q
  subst hM
  refine h B σ S ls H D sl hs fun S1 l1 H1 cls d a b c1 hx => q σ S1 l1 H1 cls d Mj a (fun k y e l => b.get e) (fun G' eg => ?_) c1 hx
  subst eg
  exact (sl.mono a b).sub hg
end

/-! ### calls -/
def okKs (ks : List Nat) (n : Nat) : Bool := ks.all (fun k => Nat.blt k n) && decide ks.Nodup
def renC (ks : List Nat) : SV → SV
  | .val t => .val t
  | .cell k => .cell ((posN ks k).getD 0)
def okC (ks : List Nat) : List SV → Bool
  | [] => true
  | .val _ :: r => okC ks r
  | .cell j :: r => (posN ks j).isSome && okC ks r
section
variable {ι ω : Type} {K : PySem.W.Frag} {T : List XcD} {W : Xw} {G : Gm} {Mu Mu1 : Mm} {ta : TA} {F : FS ι ω} {x : ι} {w : ω} {E : XK} {Es : St → XK} {ss : List SV}
theorem allS_ren {S : Hp} {ls : List Addr} {ks : List Nat} (lt : ∀ k ∈ ks, k < ls.length) : ∀ {vs : List V} {ss : List SV}, okC ks ss = true → AllS K S ls vs ss → AllS K S (selN 0 ls ks) vs (ss.map (renC ks))
  | [], [], _, _ => .nil
  | [], _ :: _, _, h => nomatch h
  | _ :: _, [], _, h => nomatch h
  | v :: vs, .val t :: ss, o, .cons r rr => .cons r (allS_ren lt (show okC ks ss = true from o) rr)
  | v :: vs, .cell j :: ss, o, .cons r rr => by
    have o1 := Bool.and_eq_true_iff.mp (show ((posN ks j).isSome && okC ks ss) = true from o)
    obtain ⟨p, hp⟩ := Option.isSome_iff_exists.mp o1.1
    obtain ⟨b, e1, e2⟩ := r
    refine .cons ⟨b, ?_, e2⟩ (allS_ren lt o1.2 rr)
    rw [hp]
    have := selN_get (d := 0) (xs := ls) (posN_lt hp)
    rw [e1] at this
    exact this
theorem pinL_get : ∀ {ps : List (Option Addr)} {ms : Mm} {j : Nat}, (pinL ps ms)[j]? = (ms[j]?).map fun x => x.map (pin ((ps[j]?).getD none))
  | [], ms, j => by
    unfold pinL
    cases ms[j]? with
    | none => rfl
    | some x => cases x <;> simp [pin]
  | _ :: _, [], j => by
    unfold pinL
    simp
  | o :: os, some m :: ms, 0 => by
    unfold pinL
    simp
  | o :: os, none :: ms, 0 => by
    unfold pinL
    simp
  | o :: os, some m :: ms, j + 1 => by
    unfold pinL
    simpa using pinL_get (ps := os) (ms := ms) (j := j)
  | o :: os, none :: ms, j + 1 => by
    unfold pinL
    simpa using pinL_get (ps := os) (ms := ms) (j := j)
theorem pinL_len : ∀ {ps : List (Option Addr)} {ms : Mm}, (pinL ps ms).length = ms.length
  | [], ms => by unfold pinL; rfl
  | _ :: _, [] => by unfold pinL; rfl
  | o :: os, some m :: ms => by
    unfold pinL
    rw [List.length_cons, List.length_cons, pinL_len]
  | o :: os, none :: ms => by
    unfold pinL
    rw [List.length_cons, List.length_cons, pinL_len]
def okP : List (Option Addr) → Mm → Bool
  | some _ :: os, some _ :: ms => okP os ms
  | none :: os, _ :: ms => okP os ms
  | [], _ => true
  | none :: os, [] => okP os []
  | some _ :: _, _ => false
theorem okP_at : ∀ {ps : List (Option Addr)} {ms : Mm} {j : Nat} {b : Addr}, okP ps ms = true → ps[j]? = some (some b) → ∃ m, ms[j]? = some (some m)
  | [], _, _, _, _, e => by simp at e
  | some c :: os, some m :: ms, 0, _, _, _ => ⟨m, rfl⟩
  | some c :: os, some m :: ms, j + 1, b, h, e => by
    have := okP_at (ps := os) (ms := ms) (j := j) (b := b) (by unfold okP at h; exact h) (by simpa using e)
    simpa using this
  | some c :: os, none :: ms, _, _, h, _ => by unfold okP at h; cases h
  | some c :: os, [], _, _, h, _ => by unfold okP at h; cases h
  | none :: os, _ :: ms, 0, _, _, e => by simp at e
  | none :: os, m :: ms, j + 1, b, h, e => by
    have := okP_at (ps := os) (ms := ms) (j := j) (b := b) (by unfold okP at h; exact h) (by simpa using e)
    simpa using this
  | none :: os, [], 0, _, _, e => by simp at e
  | none :: os, [], j + 1, b, h, e => by
    have := okP_at (ps := os) (ms := []) (j := j) (b := b) (by unfold okP at h; exact h) (by simpa using e)
    simpa using this
theorem HS.mapCells {B : Bs} {S H : Hp} {ls : List Addr} {Mu Mu' : Mm} (h : HS K B S ls Mu H) (hl : Mu'.length = Mu.length)
    (w : ∀ (k : Nat) (m' : MV), Mu'[k]? = some (some m') → ∃ m, Mu[k]? = some (some m) ∧ ∀ a f, ls[k]? = some a → m.q K S H a f → m'.q K S H a f) : HS K B S ls Mu' H := by
  obtain ⟨F, o⟩ := h.own
  refine ⟨h.ex, h.s0, h.new, h.fr, h.c0, h.c1, h.len.trans hl.symm, F, o.dis, fun i b z => by rw [hl]; exact o.lt i b z, fun k m' e => ?_, o.off, o.inH, o.from_⟩
  obtain ⟨m, e1, e2⟩ := w k m' e
  obtain ⟨a, f1, f2⟩ := o.cell k m e1
  exact ⟨a, f1, e2 a _ f1 f2⟩
theorem HS.unpin {B : Bs} {S H : Hp} {ls : List Addr} {ps : List (Option Addr)} {ms : Mm} (h : HS K B S ls (pinL ps ms) H) : HS K B S ls ms H := by
  refine h.mapCells pinL_len.symm fun k m' e => ⟨pin ((ps[k]?).getD none) m', by rw [pinL_get, e]; rfl, fun a f _ q => (pin_q.mp q).2⟩
theorem HS.pinned {B : Bs} {S H : Hp} {ls : List Addr} {ps : List (Option Addr)} {ms : Mm} (h : HS K B S ls (pinL ps ms) H) (ok : okP ps ms = true) : ∀ (j : Nat) (b : Addr), ps[j]? = some (some b) → ls[j]? = some b := fun j b e => by
  obtain ⟨m, em⟩ := okP_at ok e
  obtain ⟨F, o⟩ := h.own
  obtain ⟨a, f1, f2⟩ := o.cell j (pin (some b) m) (by rw [pinL_get, em, e]; rfl)
  rw [f1, (pin_q.mp f2).1 b rfl]
theorem HS.repin {B : Bs} {S H : Hp} {ls : List Addr} {ps : List (Option Addr)} {ms Mx : Mm} (h : HS K B S ls (ms ++ Mx) H) (w : ∀ (j : Nat) (b : Addr), ps[j]? = some (some b) → ls[j]? = some b) : HS K B S ls (pinL ps ms ++ Mx) H := by
  refine h.mapCells (by rw [List.length_append, List.length_append, pinL_len]) fun k m' e => ?_
  by_cases hk : k < ms.length
  · rw [List.getElem?_append_left (by rw [pinL_len]; exact hk), pinL_get] at e
    obtain ⟨x, e1, e2⟩ := Option.map_eq_some_iff.mp e
    cases x with
    | none => cases e2
    | some m =>
      obtain rfl : pin ((ps[k]?).getD none) m = m' := by simpa using e2
      refine ⟨m, by rw [List.getElem?_append_left hk]; exact e1, fun a f ea q => pin_q.mpr ⟨fun b eb => ?_, q⟩⟩
      have : ps[k]? = some (some b) := by
        cases ep : ps[k]? with
        | none => rw [ep] at eb; cases eb
        | some o =>
          rw [ep] at eb
          have eb : o = some b := eb
          rw [eb]
      have := w k b this
      rw [ea] at this
      exact Option.some.inj this
  · rw [List.getElem?_append_right (by rw [pinL_len]; omega), pinL_len] at e
    exact ⟨m', by rw [List.getElem?_append_right (by omega)]; exact e, fun a f _ q => q⟩
/-- a call's promise is asked; what follows by the outcome -/
theorem sp_call {B : Bs} {S H : Hp} {ls : List Addr} {vs : List V} {Q : VK} {ks : List Nat} {ps : List (Option Addr)} (h : HS K B S ls Mu H) (r : AllS K S ls vs ss) (hk : okKs ks Mu.length = true) (hc : okC ks ss = true) (hi : F.ins x = ss.map (renC ks)) (hC : selN none Mu ks = pinL ps (F.cells x)) (hP : okP ps (F.cells x) = true) (hm : F.m x = .ok w)
    (acc : ∀ C, (∀ S2 l2 M2 Mx H2, HS K ⟨H, S, selN 0 ls ks, C⟩ S2 l2 (M2 ++ Mx) H2 → M2.length = ks.length → HS K B S2 (ls ++ l2.drop ks.length) (putAll Mu ks (pinL ps M2) ++ Mx) H2) → Acc K ⟨T, fun cls d _ H' => E cls d H'⟩ ⟨H, S, selN 0 ls ks, C⟩ S (selN 0 ls ks) { nx := fun _ H' => Q .non H', rt := Q } (F.out x w)) :
    spT K T F vs H Q E := by
  have hk := Bool.and_eq_true_iff.mp (show (ks.all (fun k => Nat.blt k Mu.length) && decide ks.Nodup) = true from hk)
  have nd : ks.Nodup := of_decide_eq_true hk.2
  have lt : ∀ k ∈ ks, k < Mu.length := fun k z => by
    have := List.all_eq_true.mp hk.1 k z
    exact Nat.le_of_ble_eq_true this
  obtain ⟨C, h1, h2⟩ := h.call ks nd lt
  rw [hC] at h1
  have pw := h1.pinned hP
  refine ⟨x, w, S, selN 0 ls ks, C, hm, h1.unpin, by rw [hi]; exact allS_ren (fun k z => by rw [h.len]; exact lt k z) hc r, acc C fun S2 l2 M2 Mx H2 g hl => ?_⟩
  exact h2 S2 l2 (pinL ps M2) Mx H2 (g.repin fun j b e => g.c0.get (pw j b e)) (by rw [pinL_len]; exact hl)
/-- .. the outcomes -/
theorem acc_rt {B : Bs} {S H : Hp} {ls : List Addr} {Q : VK} {ks : List Nat} {ps : List (Option Addr)} {C : FP} {t : TV} {Mp : Mm} {W' : Xw} (h : HS K B S ls Mu H) (hp : Mp.length = ks.length)
    (back : ∀ S2 l2 M2 Mx H2, HS K ⟨H, S, selN 0 ls ks, C⟩ S2 l2 (M2 ++ Mx) H2 → M2.length = ks.length → HS K B S2 (ls ++ l2.drop ks.length) (putAll Mu ks (pinL ps M2) ++ Mx) H2) (q : Aft K B S ls (putAll Mu ks (pinL ps Mp)) (.val t) Q) :
    Acc K W' ⟨H, S, selN 0 ls ks, C⟩ S (selN 0 ls ks) { nx := fun _ H' => Q .non H', rt := Q } (.rt t Mp) := fun v S2 l2 H2 Mj g r => by
  have b := (back S2 l2 Mp Mj H2 g hp).trunc (by rw [putAll_len, ← h.len]; obtain ⟨m, e⟩ := h.c0; rw [e, List.length_append]; omega)
  rw [putAll_len, List.take_append_of_le_length (by rw [h.len]; exact Nat.le_refl _), List.take_of_length_le (by rw [h.len]; exact Nat.le_refl _)] at b
  exact q v S2 ls H2 g.s0 (Pre.refl _) b r
theorem acc_vd {B : Bs} {S H : Hp} {ls : List Addr} {Q : VK} {ks : List Nat} {ps : List (Option Addr)} {C : FP} {Mp : Mm} {W' : Xw} (h : HS K B S ls Mu H) (hp : Mp.length = ks.length)
    (back : ∀ S2 l2 M2 Mx H2, HS K ⟨H, S, selN 0 ls ks, C⟩ S2 l2 (M2 ++ Mx) H2 → M2.length = ks.length → HS K B S2 (ls ++ l2.drop ks.length) (putAll Mu ks (pinL ps M2) ++ Mx) H2) (q : Aft K B S ls (putAll Mu ks (pinL ps Mp)) vN Q) :
    Acc K W' ⟨H, S, selN 0 ls ks, C⟩ S (selN 0 ls ks) { nx := fun _ H' => Q .non H', rt := Q } (.vd Mp) := fun σ' S2 l2 H2 Mj g => by
  have b := (back S2 l2 Mp Mj H2 g hp).trunc (by rw [putAll_len, ← h.len]; obtain ⟨m, e⟩ := h.c0; rw [e, List.length_append]; omega)
  rw [putAll_len, List.take_append_of_le_length (by rw [h.len]; exact Nat.le_refl _), List.take_of_length_le (by rw [h.len]; exact Nat.le_refl _)] at b
  have z := q .non S2 ls H2 g.s0 (Pre.refl _) b rfl
  exact ⟨z, z⟩
theorem acc_rf {B : Bs} {S H : Hp} {ls : List Addr} {Q : VK} {ks : List Nat} {ps : List (Option Addr)} {C : FP} {m : MV} {Mp : Mm} {W' : Xw} (h : HS K B S ls Mu H) (hp : Mp.length = ks.length)
    (back : ∀ S2 l2 M2 Mx H2, HS K ⟨H, S, selN 0 ls ks, C⟩ S2 l2 (M2 ++ Mx) H2 → M2.length = ks.length → HS K B S2 (ls ++ l2.drop ks.length) (putAll Mu ks (pinL ps M2) ++ Mx) H2) (q : Aft K B S ls (putAll Mu ks (pinL ps Mp) ++ [some m]) (.cell (putAll Mu ks (pinL ps Mp)).length) Q) :
    Acc K W' ⟨H, S, selN 0 ls ks, C⟩ S (selN 0 ls ks) { nx := fun _ H' => Q .non H', rt := Q } (.rf m Mp) := fun p S2 l2 H2 g hl => by
  have b := back S2 (l2 ++ [p]) Mp [some m] H2 g hp
  rw [← hp, ← hl, List.drop_left] at b
  exact q (.ref p) S2 (ls ++ [p]) H2 g.s0 ⟨[p], rfl⟩ b ⟨p, by rw [putAll_len, ← h.len]; simp, rfl⟩
theorem acc_ex {B : Bs} {S H : Hp} {ls : List Addr} {Q : VK} {ks : List Nat} {ps : List (Option Addr)} {C : FP} {y : Xc} {g0 : Option Gm} {Mp : Mm} {σ : St} (h : HS K B S ls Mu H) (hp : Mp.length = ks.length)
    (back : ∀ S2 l2 M2 Mx H2, HS K ⟨H, S, selN 0 ls ks, C⟩ S2 l2 (M2 ++ Mx) H2 → M2.length = ks.length → HS K B S2 (ls ++ l2.drop ks.length) (putAll Mu ks (pinL ps M2) ++ Mx) H2) (q : AftX K W B S ls (putAll Mu ks (pinL ps Mp)) y σ) :
    Acc K ⟨W.T, fun cls d _ H' => W.W cls d σ H'⟩ ⟨H, S, selN 0 ls ks, C⟩ S (selN 0 ls ks) { nx := fun _ H' => Q .non H', rt := Q } (.ex y g0 Mp) := fun σ' S2 l2 H2 cls d Mj _ _ _ g hx => by
  have b := (back S2 l2 Mp Mj H2 g hp).trunc (by rw [putAll_len, ← h.len]; obtain ⟨m, e⟩ := h.c0; rw [e, List.length_append]; omega)
  rw [putAll_len, List.take_append_of_le_length (by rw [h.len]; exact Nat.le_refl _), List.take_of_length_le (by rw [h.len]; exact Nat.le_refl _)] at b
  exact q S2 ls H2 cls d g.s0 (Pre.refl _) b hx
/-- f(a, ..): a value, nothing, a new object -/
theorem ev_call {ks : List Nat} {t : TV} {Mp : Mm} (ha : EvA K ta G Mu Mu1 ss) (hm : F.m x = .ok w) (hk : okKs ks Mu1.length = true := by rfl) (hc : okC ks ss = true := by rfl) (hi : F.ins x = ss.map (renC ks) := by rfl) (ps : List (Option Addr) := []) (hC : selN none Mu1 ks = pinL ps (F.cells x) := by rfl) (hP : okP ps (F.cells x) = true := by rfl) (ho : F.out x w = .rt t Mp := by rfl) (hp : Mp.length = ks.length := by rfl) {sp : Sp} (hsp : SpLe (spT K T F) sp := by exact fun _ _ _ _ h => h) :
    EvV K (tCall sp [] E ta) G Mu (putAll Mu1 ks (pinL ps Mp)) (.val t) := fun B σ S ls H Q sl hs q =>
  ha B σ S ls H _ sl hs fun vs S1 l1 H1 a1 b1 c1 d1 => by
    rw [List.append_nil]
    refine hsp _ _ _ _ ?_
    exact sp_call c1 d1 hk hc hi hC hP hm fun C back => by
      rw [ho]
      exact acc_rt c1 hp back (q.mono a1 b1)
theorem ev_callN {ks : List Nat} {Mp : Mm} (ha : EvA K ta G Mu Mu1 ss) (hm : F.m x = .ok w) (hk : okKs ks Mu1.length = true := by rfl) (hc : okC ks ss = true := by rfl) (hi : F.ins x = ss.map (renC ks) := by rfl) (ps : List (Option Addr) := []) (hC : selN none Mu1 ks = pinL ps (F.cells x) := by rfl) (hP : okP ps (F.cells x) = true := by rfl) (ho : F.out x w = .vd Mp := by rfl) (hp : Mp.length = ks.length := by rfl) {sp : Sp} (hsp : SpLe (spT K T F) sp := by exact fun _ _ _ _ h => h) :
    EvV K (tCall sp [] E ta) G Mu (putAll Mu1 ks (pinL ps Mp)) vN := fun B σ S ls H Q sl hs q =>
  ha B σ S ls H _ sl hs fun vs S1 l1 H1 a1 b1 c1 d1 => by
    rw [List.append_nil]
    refine hsp _ _ _ _ ?_
    exact sp_call c1 d1 hk hc hi hC hP hm fun C back => by
      rw [ho]
      exact acc_vd c1 hp back (q.mono a1 b1)
theorem ef_call {ks : List Nat} {m : MV} {Mp : Mm} (ha : EvA K ta G Mu Mu1 ss) (hm : F.m x = .ok w) (hk : okKs ks Mu1.length = true := by rfl) (hc : okC ks ss = true := by rfl) (hi : F.ins x = ss.map (renC ks) := by rfl) (ps : List (Option Addr) := []) (hC : selN none Mu1 ks = pinL ps (F.cells x) := by rfl) (hP : okP ps (F.cells x) = true := by rfl) (ho : F.out x w = .rf m Mp := by rfl) (hp : Mp.length = ks.length := by rfl) {sp : Sp} (hsp : SpLe (spT K T F) sp := by exact fun _ _ _ _ h => h) :
    EvF K (tCall sp [] E ta) G Mu (putAll Mu1 ks (pinL ps Mp)) m := fun B σ S ls H Q sl hs q =>
  ha B σ S ls H _ sl hs fun vs S1 l1 H1 a1 b1 c1 d1 => by
    rw [List.append_nil]
    refine hsp _ _ _ _ ?_
    exact sp_call c1 d1 hk hc hi hC hP hm fun C back => by
      rw [ho]
      exact acc_rf c1 hp back (q.mono a1 b1)
/-- .. of a def that may raise -/
theorem ev_callS {ks : List Nat} {t : TV} {Mp : Mm} (ha : EvA K ta G Mu Mu1 ss) (hm : F.m x = .ok w) (hk : okKs ks Mu1.length = true := by rfl) (hc : okC ks ss = true := by rfl) (hi : F.ins x = ss.map (renC ks) := by rfl) (ps : List (Option Addr) := []) (hC : selN none Mu1 ks = pinL ps (F.cells x) := by rfl) (hP : okP ps (F.cells x) = true := by rfl) (ho : F.out x w = .rt t Mp := by rfl) (hp : Mp.length = ks.length := by rfl) {sp : Sp} (hsp : SpLe (spT K T F) sp := by exact fun _ _ _ _ h => h) :
    EvV K (tCallS sp Es ta) G Mu (putAll Mu1 ks (pinL ps Mp)) (.val t) := fun B σ S ls H Q sl hs q =>
  ha B σ S ls H _ sl hs fun vs S1 l1 H1 a1 b1 c1 d1 => hsp _ _ _ _ <| sp_call c1 d1 hk hc hi hC hP hm fun C back => by
    rw [ho]
    exact acc_rt c1 hp back (q.mono a1 b1)
theorem ev_callSN {ks : List Nat} {Mp : Mm} (ha : EvA K ta G Mu Mu1 ss) (hm : F.m x = .ok w) (hk : okKs ks Mu1.length = true := by rfl) (hc : okC ks ss = true := by rfl) (hi : F.ins x = ss.map (renC ks) := by rfl) (ps : List (Option Addr) := []) (hC : selN none Mu1 ks = pinL ps (F.cells x) := by rfl) (hP : okP ps (F.cells x) = true := by rfl) (ho : F.out x w = .vd Mp := by rfl) (hp : Mp.length = ks.length := by rfl) {sp : Sp} (hsp : SpLe (spT K T F) sp := by exact fun _ _ _ _ h => h) :
    EvV K (tCallS sp Es ta) G Mu (putAll Mu1 ks (pinL ps Mp)) vN := fun B σ S ls H Q sl hs q =>
  ha B σ S ls H _ sl hs fun vs S1 l1 H1 a1 b1 c1 d1 => hsp _ _ _ _ <| sp_call c1 d1 hk hc hi hC hP hm fun C back => by
    rw [ho]
    exact acc_vd c1 hp back (q.mono a1 b1)
theorem ef_callS {ks : List Nat} {m : MV} {Mp : Mm} (ha : EvA K ta G Mu Mu1 ss) (hm : F.m x = .ok w) (hk : okKs ks Mu1.length = true := by rfl) (hc : okC ks ss = true := by rfl) (hi : F.ins x = ss.map (renC ks) := by rfl) (ps : List (Option Addr) := []) (hC : selN none Mu1 ks = pinL ps (F.cells x) := by rfl) (hP : okP ps (F.cells x) = true := by rfl) (ho : F.out x w = .rf m Mp := by rfl) (hp : Mp.length = ks.length := by rfl) {sp : Sp} (hsp : SpLe (spT K T F) sp := by exact fun _ _ _ _ h => h) :
    EvF K (tCallS sp Es ta) G Mu (putAll Mu1 ks (pinL ps Mp)) m := fun B σ S ls H Q sl hs q =>
  ha B σ S ls H _ sl hs fun vs S1 l1 H1 a1 b1 c1 d1 => hsp _ _ _ _ <| sp_call c1 d1 hk hc hi hC hP hm fun C back => by
    rw [ho]
    exact acc_rf c1 hp back (q.mono a1 b1)
theorem ex_callS {ks : List Nat} {y : Xc} {g0 : Option Gm} {Mp : Mm} (ha : EvA K ta G Mu Mu1 ss) (hm : F.m x = .ok w) (hk : okKs ks Mu1.length = true := by rfl) (hc : okC ks ss = true := by rfl) (hi : F.ins x = ss.map (renC ks) := by rfl) (ps : List (Option Addr) := []) (hC : selN none Mu1 ks = pinL ps (F.cells x) := by rfl) (hP : okP ps (F.cells x) = true := by rfl) (ho : F.out x w = .ex y g0 Mp := by rfl) (hp : Mp.length = ks.length := by rfl) {sp : Sp} (hsp : SpLe (spT K W.T F) sp := by exact fun _ _ _ _ h => h) :
    EvX K W (tCallS sp (fun σ cls d H' => W.W cls d σ H') ta) G Mu (putAll Mu1 ks (pinL ps Mp)) y := fun B σ S ls H Q sl hs q =>
  ha B σ S ls H _ sl hs fun vs S1 l1 H1 a1 b1 c1 d1 => hsp _ _ _ _ <| sp_call c1 d1 hk hc hi hC hP hm fun C back => by
    rw [ho]
    exact acc_ex c1 hp back (q.mono a1 b1)
/-- an argument raises -/
theorem ex_callS1 (h : EvXA K W ta G Mu Mu1 y) {sp : Sp} : EvX K W (tCallS sp Es ta) G Mu Mu1 y := fun B σ S ls H Q sl hs q => h B σ S ls H _ sl hs q
theorem ex_call1 (h : EvXA K W ta G Mu Mu1 y) {sp : Sp} {ds : List V} : EvX K W (tCall sp ds E ta) G Mu Mu1 y := fun B σ S ls H Q sl hs q => h B σ S ls H _ sl hs q
end

/-! ### own lists: append, o[i] = e; x += e -/
section
variable {ω : Type} {K : PySem.W.Frag} {W : Xw} {np : Nat} {G : Gm} {Mu Mu1 Mu2 Mu3 : Mm} {κ : ω → OS} {m : Mr ω} {u : TS} {te to ti : TE} {t : TV} {ts : List TV} {k i : Nat} {a b : Int}
/-- a list may grow -/
theorem growOk_lt {α : Type} {xs : List α} {r : Unit} (h : growOk xs = .ok r) : xs.length < sizeLine := by
  unfold growOk at h
  split at h
  · rw [sizeLine_eq]
    assumption
  · cases h
theorem eb_app (oc : Option Addr) {ts1 : List TV} (ho : EvV K to G Mu Mu1 (.cell k)) (hk1 : Mu1[k]? = some (some (pin oc (mL ts1)))) (he : EvV K te G Mu1 Mu2 (.val t)) (hk : Mu2[k]? = some (some (pin oc (mL ts)))) (hz : ts.length < sizeLine) (r : EvB K W np u G (Mu2.set k (some (pin oc (mL (ts ++ [t]))))) κ m) :
    EvB K W np (tSeq (tDrop (tBM K "list" rAppend to (tCons te tNil))) u) G Mu κ m := fun B σ S ls H D w hn sl hs e q =>
  ho B σ S ls H _ sl hs fun x S1 l1 H1 a1 b1 c1 d1 => by
    obtain ⟨p, ep, ex⟩ := d1
    subst ex
    obtain ⟨p', o, f1, _, f3, ⟨vs, fo, _, _⟩⟩ := c1.cell hk1
    rw [ep] at f1
    cases f1
    subst fo
    refine ⟨.inl ⟨rfl, vs, SqL.of f3⟩, ?_⟩
    refine he B σ S1 l1 H1 _ (sl.mono a1 b1) c1 fun y S2 l2 H2 a2 b2 c2 d2 => ?_
    obtain ⟨p2, o2, g1, _, g3, ⟨vs2, go, gz, gr⟩⟩ := c2.cell hk
    rw [b2.get ep] at g1
    cases g1
    subst go
    refine ⟨p, vs2, y, rfl, rfl, g3, by rw [Paired.length gr]; exact hz, ?_⟩
    refine r B σ S2 l2 _ D w hn ((sl.mono a1 b1).mono a2 b2) (c2.write hk (b2.get ep) ⟨vs2 ++ [y], rfl, ?_, Paired.app gr (.cons d2 .nil)⟩) e (q.mono (a1.trans a2) (b1.trans b2))
    rw [List.length_append, Paired.length gr]
    exact hz
/-- o[i] = e -/
theorem ixN_len {n : Nat} {i : Int} {j : Nat} (h : ixN n i = some j) : j < n := (ixN_seq h).2.1
theorem eb_setC (oc : Option Addr) {i : Int} {j : Nat} (he : EvV K te G Mu Mu1 (.val t)) (ho : EvV K to G Mu1 Mu2 (.cell k)) (hi : EvV K ti G Mu2 Mu3 (vI i)) (hk : Mu3[k]? = some (some (pin oc (mL ts)))) (hj : ixN ts.length i = some j) (r : EvB K W np u G (Mu3.set k (some (pin oc (mL (ts.set j t))))) κ m) :
    EvB K W np (tSeq (tAsg te (gSub to ti rSetL)) u) G Mu κ m := fun B σ S ls H D w hn sl hs e q =>
  he B σ S ls H _ sl hs fun y S1 l1 H1 a1 b1 c1 d1 => ho B σ S1 l1 H1 _ (sl.mono a1 b1) c1 fun x S2 l2 H2 a2 b2 c2 d2 => hi B σ S2 l2 H2 _ ((sl.mono a1 b1).mono a2 b2) c2 fun z S3 l3 H3 a3 b3 c3 d3 => by
    obtain ⟨p, ep, ex⟩ := d2
    subst ex
    obtain ⟨p2, o2, g1, _, g3, ⟨vs2, go, gz, gr⟩⟩ := c3.cell hk
    rw [b3.get ep] at g1
    cases g1
    subst go
    refine ⟨p, vs2, i, j, rfl, d3, g3, by rw [Paired.length gr]; exact hj, ?_⟩
    refine r B σ S3 l3 _ D w hn (((sl.mono a1 b1).mono a2 b2).mono a3 b3) (c3.write hk (b3.get ep) ⟨vs2.set j y, rfl, by rw [List.length_set]; exact gz, Paired.set (F := fun v (t : TV) => t.p K S3 v) (t.mono (a2.trans a3) d1) j gr⟩) e (q.mono ((a1.trans a2).trans a3) ((b1.trans b2).trans b3))
theorem setI_ok {α : Type} {xs ys : List α} {i : Int} {x : α} (h : setI xs i x = .ok ys) : ∃ j, L2.ixN xs.length i = some j ∧ ys = xs.set j x := by
  unfold setI at h
  split at h
  · rename_i j e
    cases h
    exact ⟨j, e, rfl⟩
  · cases h
theorem map_set {α : Type} {R : Rep α} {xs : List α} {j : Nat} {x : α} : (xs.map (tv R)).set j (tv R x) = (xs.set j x).map (tv R) := List.map_set.symm
/-- the same, of a list of one kind -/
theorem eb_setI (oc : Option Addr) {α : Type} {R : Rep α} {xs ys : List α} {x : α} {i : Int} (he : EvV K te G Mu Mu1 (.val (tv R x))) (ho : EvV K to G Mu1 Mu2 (.cell k)) (hi : EvV K ti G Mu2 Mu3 (vI i)) (hk : Mu3[k]? = some (some (pin oc (mL (xs.map (tv R)))))) (hj : setI xs i x = .ok ys) (r : EvB K W np u G (Mu3.set k (some (pin oc (mL (ys.map (tv R)))))) κ m) :
    EvB K W np (tSeq (tAsg te (gSub to ti rSetL)) u) G Mu κ m := by
  obtain ⟨j, e1, e2⟩ := setI_ok hj
  refine eb_setC oc he ho hi hk (j := j) (by rw [List.length_map]; exact e1) ?_
  rw [map_set, ← e2]
  exact r
theorem eb_appL (oc : Option Addr) {α : Type} {R : Rep α} {xs : List α} {x : α} {ts1 : List TV} {r0 : Unit} (ho : EvV K to G Mu Mu1 (.cell k)) (hk1 : Mu1[k]? = some (some (pin oc (mL ts1)))) (he : EvV K te G Mu1 Mu2 (.val (tv R x))) (hk : Mu2[k]? = some (some (pin oc (mL (xs.map (tv R)))))) (hz : growOk xs = .ok r0) (r : EvB K W np u G (Mu2.set k (some (pin oc (mL ((xs ++ [x]).map (tv R)))))) κ m) :
    EvB K W np (tSeq (tDrop (tBM K "list" rAppend to (tCons te tNil))) u) G Mu κ m := by
  refine eb_app oc ho hk1 he hk (by rw [List.length_map]; exact growOk_lt hz) ?_
  rw [List.map_append] at r
  exact r
/-- x += e, ints -/
theorem eb_aug {f : Int → Int → Int} (hx : G[i]? = some (some (vI a))) (h : EvV K te G Mu Mu1 (vI b)) (r : EvB K W np u (G.set i (some (vI (f a b)))) Mu1 κ m) : EvB K W np (tSeq (tAug i te (ipI f)) u) G Mu κ m := fun B σ S ls H D w hn sl hs e q => by
  obtain ⟨v, e1, e2⟩ := sl.2 i _ hx
  refine ⟨v, e1, h B σ S ls H _ sl hs fun y S1 l1 H1 a1 b1 c1 d1 => ⟨a, b, e2, d1, ?_⟩⟩
  exact r B _ S1 l1 H1 D w hn ((sl.mono a1 b1).set (v := .int (f a b)) rfl) c1 e (q.mono a1 b1)
end
end TL

/-! TL, fifth part: built-ins. -/
namespace TL
open PySem L2
section
variable {K : PySem.W.Frag} {G : Gm} {Mu Mu1 Mu2 Mu3 : Mm} {te : TE} {ts us : List TV} {s s2 : SV} {k k2 : Knd} {a b : Int} {α : Type} {R : Rep α} {xs ys : List α}
/-- one, two arguments -/
theorem ev_cb1 {r : List V → Hp → VK → Prop} {t : SV} (h : EvV K te G Mu Mu1 s) (hr : Rc K r Mu1 Mu2 [s] t) : EvV K (tCB r (tCons te tNil)) G Mu Mu2 t := ev_cb (ea_cons h ea_nil) hr
theorem rc_int : Rc K (fun xs H Q => (∃ i, xs = [.int i] ∧ Q (.int i) H) ∨ ∃ k, xs = [.bl k] ∧ Q (.int (if k then 1 else 0)) H) Mu Mu [vI a] (vI a) := rc_same fun B S ls H vs Q hs ha q => by
  cases ha with
  | cons r0 r1 =>
    cases r1
    cases r0
    exact .inl ⟨a, rfl, q _ rfl⟩
theorem rc_intB {c : Bool} : Rc K (fun xs H Q => (∃ i, xs = [.int i] ∧ Q (.int i) H) ∨ ∃ k, xs = [.bl k] ∧ Q (.int (if k then 1 else 0)) H) Mu Mu [vB c] (vI (if c = true then 1 else 0)) := rc_same fun B S ls H vs Q hs ha q => by
  cases ha with
  | cons r0 r1 =>
    cases r1
    cases r0
    exact .inr ⟨c, rfl, q _ rfl⟩
theorem rc_abs : Rc K (fun xs H Q => ∃ i, xs = [.int i] ∧ Q (.int (if i < 0 then -i else i)) H) Mu Mu [vI a] (vI (absI a)) := rc_same fun B S ls H vs Q hs ha q => by
  cases ha with
  | cons r0 r1 =>
    cases r1
    cases r0
    exact ⟨a, rfl, q _ rfl⟩
theorem rc_max2 : Rc K (fun xs H Q => ∃ i j, xs = [.int i, .int j] ∧ Q (.int (if j > i then j else i)) H) Mu Mu [vI a, vI b] (vI (if b > a then b else a)) := rc_same fun B S ls H vs Q hs ha q => by
  cases ha with
  | cons r0 r1 =>
    cases r1 with
    | cons r1 r2 =>
      cases r2
      cases r0
      cases r1
      exact ⟨a, b, rfl, q _ rfl⟩
theorem rc_min2 : Rc K (fun xs H Q => ∃ i j, xs = [.int i, .int j] ∧ Q (.int (if j < i then j else i)) H) Mu Mu [vI a, vI b] (vI (if b < a then b else a)) := rc_same fun B S ls H vs Q hs ha q => by
  cases ha with
  | cons r0 r1 =>
    cases r1 with
    | cons r1 r2 =>
      cases r2
      cases r0
      cases r1
      exact ⟨a, b, rfl, q _ rfl⟩
theorem allT_ints {S : Hp} : ∀ {vs : List V} {ns : List Int}, AllT K S vs (ns.map (tv rInt)) → vs = ns.map V.int
  | [], [], _ => rfl
  | [], _ :: _, h => nomatch h
  | _ :: _, [], h => nomatch h
  | v :: vs, n :: ns, .cons r t => by
    cases r
    rw [allT_ints t]
    rfl
theorem allT_bools {S : Hp} : ∀ {vs : List V} {ns : List Bool}, AllT K S vs (ns.map (tv rBool)) → vs = ns.map V.bl
  | [], [], _ => rfl
  | [], _ :: _, h => nomatch h
  | _ :: _, [], h => nomatch h
  | v :: vs, n :: ns, .cons r t => by
    cases r
    rw [allT_bools t]
    rfl
theorem ints_allT {S : Hp} : ∀ ns : List Int, AllT K S (ns.map V.int) (ns.map (tv rInt))
  | [] => .nil
  | n :: ns => .cons rfl (ints_allT ns)
theorem rc_any {bs : List Bool} (h : IsSq K Mu s k (bs.map (tv rBool))) (hk : k.isL = true := by rfl) : Rc K (rAny K) Mu Mu [s] (vB (bs.any id)) := rc_same fun B S ls H vs Q hs ha q => by
  cases ha with
  | cons r0 r1 =>
    cases r1
    obtain ⟨p, ws, e, sq, l, r⟩ := h B S ls H _ hs r0
    subst e
    rw [allT_bools r] at sq
    exact ⟨p, bs, rfl, SqK.seq sq hk, q _ rfl⟩
theorem rc_all {bs : List Bool} (h : IsSq K Mu s k (bs.map (tv rBool))) (hk : k.isL = true := by rfl) : Rc K (rAll K) Mu Mu [s] (vB (bs.all id)) := rc_same fun B S ls H vs Q hs ha q => by
  cases ha with
  | cons r0 r1 =>
    cases r1
    obtain ⟨p, ws, e, sq, l, r⟩ := h B S ls H _ hs r0
    subst e
    rw [allT_bools r] at sq
    exact ⟨p, bs, rfl, SqK.seq sq hk, q _ rfl⟩
theorem rc_sum {ns : List Int} (h : IsSq K Mu s k (ns.map (tv rInt))) (hk : k.isL = true := by rfl) : Rc K (rSum K) Mu Mu [s] (vI ns.sum) := rc_same fun B S ls H vs Q hs ha q => by
  cases ha with
  | cons r0 r1 =>
    cases r1
    obtain ⟨p, ws, e, sq, l, r⟩ := h B S ls H _ hs r0
    subst e
    rw [allT_ints r] at sq
    exact ⟨p, ns, rfl, SqK.seq sq hk, q _ rfl⟩
/-- sorted -/
theorem sortI_eq {ns ms : List Int} (h : ms.Perm ns) (p : ms.Pairwise (· ≤ ·)) : ms = sortI ns := by
  have s1 : (sortI ns).Pairwise (· ≤ ·) := by
    have z := List.pairwise_mergeSort (le := fun (a b : Int) => decide (a ≤ b)) (fun a b c h1 h2 => by simp at *; omega) (fun a b => by simp; omega) ns
    exact z.imp fun h => of_decide_eq_true h
  exact List.Perm.eq_of_pairwise (le := (· ≤ ·)) (fun a b _ _ h1 h2 => Int.le_antisymm h1 h2) p s1 (h.trans (List.mergeSort_perm ns _).symm)
theorem new_lst {B : Bs} {S H : Hp} {ls : List Addr} {p : Addr} {vs : List V} {Q : VK} (hs : HS K B S ls Mu H) (hp : H p = none) (hz : vs.length ≤ sizeLine) (r : AllT K S vs ts) (q : Aft K B S ls (Mu ++ [some (mL ts)]) (.cell Mu.length) Q) : Q (.ref p) (upd H p (.lst vs)) :=
  q.new hs hp ⟨vs, rfl, hz, r⟩
theorem new_tup {B : Bs} {S H : Hp} {ls : List Addr} {p : Addr} {vs : List V} {Q : VK} (hs : HS K B S ls Mu H) (hp : H p = none) (hz : vs.length ≤ sizeLine) (r : AllT K S vs ts) (q : Aft K B S ls Mu (.val (tupT ts)) Q) : Q (.ref p) (upd H p (.tup vs)) := by
  obtain ⟨s2, h2⟩ := hs.laid (o := .tup vs) hp
  exact q _ _ ls _ s2 (Pre.refl _) h2 ⟨p, vs, rfl, upd_same, hz, r.mono s2⟩
theorem rcF_sorted {ns : List Int} (h : IsSq K Mu s k (ns.map (tv rInt))) (hk : k.isL = true := by rfl) : RcF K (rSortedI K) Mu Mu [s] (mL ((sortI ns).map (tv rInt))) := fun B S ls H vs Q hs ha q => by
  cases ha with
  | cons r0 r1 =>
    cases r1
    obtain ⟨p, ws, e, sq, l, r⟩ := h B S ls H _ hs r0
    subst e
    have ew := allT_ints r
    subst ew
    refine ⟨p, ns, rfl, SqK.seq sq hk, fun ns' p' pm pw hp => ?_⟩
    have e := sortI_eq pm pw
    subst e
    refine new_lst hs hp ?_ (ints_allT _) q
    rw [List.length_map, pm.length_eq]
    rw [List.length_map] at l
    exact l
/-- tuple(list), tuple(tuple), list(seq) -/
theorem rc_tupL (h : IsSq K Mu s k ts) (hk : k.isL = true := by rfl) : Rc K (fun xs H Q => ∃ p ys, xs = [.ref p] ∧ ((SqL K H p ys ∧ ∀ l, H l = none → Q (.ref l) (upd H l (.tup ys))) ∨ (SqT K H p ys ∧ Q (.ref p) H))) Mu Mu [s] (.val (tupT ts)) := fun B S ls H vs Q hs ha q => by
  cases ha with
  | cons r0 r1 =>
    cases r1
    obtain ⟨p, ws, e, sq, l, r⟩ := h B S ls H _ hs r0
    subst e
    exact ⟨p, ws, rfl, .inl ⟨SqK.seq sq hk, fun l' hl' => new_tup hs hl' l r q⟩⟩
theorem rc_tupT : Rc K (fun xs H Q => ∃ p ys, xs = [.ref p] ∧ ((SqL K H p ys ∧ ∀ l, H l = none → Q (.ref l) (upd H l (.tup ys))) ∨ (SqT K H p ys ∧ Q (.ref p) H))) Mu Mu [.val (tupT ts)] (.val (tupT ts)) := rc_same fun B S ls H vs Q hs ha q => by
  cases ha with
  | cons r0 r1 =>
    cases r1
    obtain ⟨p, ws, e, sq, l, r⟩ := id r0
    have sq : SqT K S p ws := SqT.of sq
    subst e
    exact ⟨p, ws, rfl, .inr ⟨same_seqT hs.ex sq, q _ r0⟩⟩
theorem rcF_list (h : IsSq K Mu s k ts) : RcF K (fun xs H Q => ∃ p ys, xs = [.ref p] ∧ (SqL K H p ys ∨ SqT K H p ys) ∧ ∀ l, H l = none → Q (.ref l) (upd H l (.lst ys))) Mu Mu [s] (mL ts) := fun B S ls H vs Q hs ha q => by
  cases ha with
  | cons r0 r1 =>
    cases r1
    obtain ⟨p, ws, e, sq, l, r⟩ := h B S ls H _ hs r0
    subst e
    exact ⟨p, ws, rfl, SqK.both sq, fun l' hl' => new_lst hs hl' l r q⟩
/-- xs + ys, xs * k -/
theorem catOk_le {α β : Type} {xs : List α} {ys : List β} {r : Unit} (h : catOk xs ys = .ok r) : xs.length + ys.length ≤ sizeLine := by
  unfold catOk at h
  split at h
  · rw [sizeLine_eq]
    assumption
  · cases h
theorem rvF_cat (h1 : IsSq K Mu s .l ts) (h2 : IsSq K Mu s2 .l us) (hz : ts.length + us.length ≤ sizeLine) : RvF K rCat Mu Mu s s2 (mL (ts ++ us)) := fun B S ls H x y Q hs ha hb q => by
  obtain ⟨p, vs, e, sq, l, r⟩ := h1 B S ls H _ hs ha
  obtain ⟨p2, vs2, e2, sq2, l2, r2⟩ := h2 B S ls H _ hs hb
  have hl : vs.length + vs2.length ≤ sizeLine := by
    rw [Paired.length r, Paired.length r2]
    exact hz
  exact ⟨p, p2, vs, vs2, e, e2, sq, sq2, hl, fun p3 hp3 => new_lst hs hp3 (by rw [List.length_append]; exact hl) (Paired.app r r2) q⟩
theorem rvF_catL (h1 : IsSq K Mu s .l (xs.map (tv R))) (h2 : IsSq K Mu s2 .l (ys.map (tv R))) {r0 : Unit} (hz : catOk xs ys = .ok r0) : RvF K rCat Mu Mu s s2 (mL ((xs ++ ys).map (tv R))) := by
  rw [List.map_append]
  exact rvF_cat h1 h2 (by rw [List.length_map, List.length_map]; exact catOk_le hz)
theorem flat_rep {α β : Type} (f : α → β) (xs : List α) : ∀ n : Nat, (List.replicate n (xs.map f)).flatten = ((List.replicate n xs).flatten).map f
  | 0 => rfl
  | n + 1 => by
    rw [List.replicate_succ, List.replicate_succ, List.flatten_cons, List.flatten_cons, List.map_append, flat_rep f xs n]
theorem paired_rep {F : V → TV → Prop} {vs : List V} {ts : List TV} (h : Paired F vs ts) : ∀ n : Nat, Paired F (List.replicate n vs).flatten (List.replicate n ts).flatten
  | 0 => .nil
  | n + 1 => by
    rw [List.replicate_succ, List.replicate_succ, List.flatten_cons, List.flatten_cons]
    exact Paired.app h (paired_rep h n)
theorem rvF_rep {n : Int} (h1 : IsSq K Mu s .l (xs.map (tv R))) {r0 : Unit} (hz : repOk xs n = .ok r0) : RvF K rRep Mu Mu s (vI n) (mL ((repL xs n).map (tv R))) := fun B S ls H x y Q hs ha hb q => by
  obtain ⟨p, vs, e, sq, l, r⟩ := h1 B S ls H _ hs ha
  unfold repOk at hz
  split at hz
  · rename_i hc
    obtain ⟨c1, c2, c3⟩ := hc
    have el : vs.length = xs.length := by rw [Paired.length r, List.length_map]
    have hl : vs.length * n.toNat ≤ sizeLine := by rw [el, sizeLine_eq]; exact c3
    refine ⟨p, n, vs, e, hb, sq, c1, c2, hl, fun p3 hp3 => new_lst hs hp3 ?_ ?_ q⟩
    · rw [List.length_flatten, List.map_replicate, List.sum_replicate_nat, Nat.mul_comm]
      exact hl
    · unfold repL
      rw [← flat_rep]
      exact paired_rep r _
  · cases hz
/-- -x -/
theorem ru_neg : Ru K (rU fun i => .int (-i)) Mu Mu (vI a) (vI (-a)) := ru_same fun B S ls H x Q hs ha q => ⟨a, ha, q _ rfl⟩
theorem ev_int {i : Int} : EvV K (tC (.int i)) G Mu Mu (vI i) := ev_c fun _ _ => rfl
theorem ev_bool {i : Bool} : EvV K (tC (.bl i)) G Mu Mu (vB i) := ev_c fun _ _ => rfl
theorem ev_str {i : Str} : EvV K (tC (.str i)) G Mu Mu (vS i) := ev_c fun _ _ => rfl
theorem ev_none : EvV K (tC .non) G Mu Mu vN := ev_c fun _ _ => rfl
theorem ev_neg1 {i : Int} : EvV K (tUn (rU fun i => .int (-i)) (tC (.int i))) G Mu Mu (vI (-i)) := ev_un ev_int ru_neg
theorem rngP_ok {r : Unit} (h : rngP a b = .ok r) : Sm62 a ∧ Sm62 b := by
  unfold rngP at h
  split at h
  · assumption
  · cases h
/-- slices -/
def EvO (K : PySem.W.Frag) (to : TO) (G : Gm) (Mu Mu' : Mm) (o : Option Int) : Prop :=
  ∀ B σ S ls H Q, Sl K S ls σ G → HS K B S ls Mu H → (∀ S' ls' H', Same S S' → Pre ls ls' → HS K B S' ls' Mu' H' → Q o H') → to σ H Q
theorem eo_none : EvO K tNoPart G Mu Mu none := fun B σ S ls H Q sl hs q => q S ls H (Same.refl _) (Pre.refl _) hs
theorem eo_some (h : EvV K te G Mu Mu1 (vI a)) : EvO K (tPart te) G Mu Mu1 (some a) := fun B σ S ls H Q sl hs q =>
  h B σ S ls H _ sl hs fun x S1 l1 H1 a1 b1 c1 d1 => ⟨a, d1, q S1 l1 H1 a1 b1 c1⟩
theorem sIxQ_eq {n d : Nat} {o : Option Int} : sIxQ n d o = HT.sIx n d o := by cases o <;> rfl
theorem cut_map {α β : Type} (f : α → β) (xs : List α) (lo hi : Option Int) : cut (xs.map f) lo hi = (cut xs lo hi).map f := by
  unfold cut
  rw [List.length_map, List.map_take, List.map_drop]
theorem cut_len {α : Type} (xs : List α) (lo hi : Option Int) : (cut xs lo hi).length ≤ xs.length := by
  unfold cut
  rw [List.length_take, List.length_drop]
  omega
theorem paired_cut {F : V → TV → Prop} {vs : List V} {ts : List TV} (h : Paired F vs ts) (lo hi : Option Int) : Paired F (cutV vs lo hi) (cut ts lo hi) := by
  unfold cutV cut
  simp only [sIxQ_eq]
  rw [Paired.length h]
  exact Paired.take _ (Paired.drop _ h)
theorem ef_sl {tl th : TO} {lo hi : Option Int} (h : EvV K te G Mu Mu1 s) (hl : EvO K tl G Mu1 Mu2 lo) (hh : EvO K th G Mu2 Mu3 hi) (hq : IsSq K Mu3 s k ts) (hk : k.isL = true := by rfl) : EvF K (tSl (rSlL K) te tl th) G Mu Mu3 (mL (cut ts lo hi)) := fun B σ S ls H Q sl hs q =>
  h B σ S ls H _ sl hs fun x S1 l1 H1 a1 b1 c1 d1 => hl B σ S1 l1 H1 _ (sl.mono a1 b1) c1 fun S2 l2 H2 a2 b2 c2 => hh B σ S2 l2 H2 _ ((sl.mono a1 b1).mono a2 b2) c2 fun S3 l3 H3 a3 b3 c3 => by
    obtain ⟨p, vs, e, sq, l, r⟩ := hq B S3 l3 H3 x c3 (SV.mono (a2.trans a3) (b2.trans b3) d1)
    refine ⟨p, vs, e, SqK.seq sq hk, fun p3 hp3 => new_lst c3 hp3 (Nat.le_trans (cutV_length vs lo hi) l) (paired_cut r lo hi) (q.mono ((a1.trans a2).trans a3) ((b1.trans b2).trans b3))⟩
/-- isinstance(x, T), T a built-in type -/
def rTy (n : String) : TV := ⟨fun _ _ v => v = .ty n, fun _ q => q⟩
def TyR (R : Rep α) (n : String) : Prop := ∀ {K : PySem.W.Frag} {S H : Hp} {v : V} {a : α}, R.p K S v a → Same S H → TyX K H v (.type n)
theorem ty_int : TyR rInt "int" := fun h _ => by cases h; exact .base (.int _)
theorem ty_bool : TyR rBool "bool" := fun h _ => by cases h; exact .base (.bl _)
theorem ty_str : TyR rStr "str" := fun h _ => by cases h; exact .base (.str _)
theorem ty_none : TyR rNone "NoneType" := fun h _ => by cases h; exact .base .non
theorem rc_isi {n n2 : String} {x : α} {c : Bool} (hn : TyR R n) (hb : kitB n n2 = some c) : Rc K (rIsi K) Mu Mu [.val (tv R x), .val (rTy n2)] (vB c) := rc_same fun B S ls H vs Q hs ha q => by
  cases ha with
  | cons r0 r1 =>
    cases r1 with
    | cons r1 r2 =>
      cases r2
      have e : _ = V.ty n2 := r1
      subst e
      exact ⟨_, _, _, _, c, rfl, .ty n2, hn r0 hs.ex, kit_ty hb, q _ rfl⟩
end
end TL

/-! TL, sixth part: operations that may stop short, texts, targets of tuples, == of data, where defs stand. -/
namespace TL
open PySem L2
section
variable {K : PySem.W.Frag} {G : Gm} {Mu Mu1 Mu2 Mu3 : Mm} {te ta tb : TE} {tt tu : TT} {ts us : List TV} {s s2 : SV} {k k2 : Knd} {a b r : Int} {α β γ δ : Type} {R : Rep α} {xs ys : List α} {A : Rep α} {B' : Rep β} {C : Rep γ} {D' : Rep δ}
/-! ### operations that may stop short -/
theorem rv_modP (h : modP a b = .ok r) : Rv K (rI (fun _ j => 0 < j) fun i j => .int (i % j)) Mu Mu (vI a) (vI b) (vI r) := by
  unfold modP at h
  split at h
  · cases h
    exact rv_mod (by assumption)
  · cases h
theorem rv_fdivP (h : fdivP a b = .ok r) : Rv K (rI CDivW fun i j => .int (i / j)) Mu Mu (vI a) (vI b) (vI r) := by
  unfold fdivP at h
  split at h
  · cases h
    exact rv_fdiv (by assumption)
  · cases h
theorem bitsQ_eq {a : Int} : (Builtin.Int.intBits a) = bitsQ a := by
  unfold Builtin.Int.intBits bitsQ
  by_cases h : a = 0
  · subst h
    rfl
  · have h1 : ¬ a.natAbs = 0 := by omega
    have h2 : (a == 0) = false := by simpa using h
    rw [h2, if_neg Bool.false_ne_true, if_neg h1]
theorem rv_mulP (h : mulP a b = .ok r) : Rv K (rI CMulX fun i j => .int (i * j)) Mu Mu (vI a) (vI b) (vI r) := by
  unfold mulP at h
  split at h
  · cases h
    refine rv_mul ?_
    show (Builtin.Int.intBits a : Int) + (Builtin.Int.intBits b : Int) ≤ 134217728
    rw [bitsQ_eq, bitsQ_eq]
    omega
  · cases h
theorem rv_powP (h : powP a b = .ok r) : Rv K (rI CPowW fun i j => .int (i ^ j.toNat)) Mu Mu (vI a) (vI b) (vI r) := by
  unfold powP at h
  split at h
  · rename_i hc
    cases h
    refine rv_pow ⟨hc.1, ?_⟩
    rw [bitsQ_eq]
    exact hc.2
  · cases h
theorem rv_shrP (h : shrP a b = .ok r) : Rv K (rI (fun _ j => 0 ≤ j) fun i j => .int (i / 2 ^ j.toNat)) Mu Mu (vI a) (vI b) (vI r) := by
  unfold shrP at h
  split at h
  · cases h
    exact rv_shr (by assumption)
  · cases h
/-- a factor that is written (below 2 ^ 64) -/
theorem rv_mulC (h : CMul a b) : Rv K (rI CMul fun i j => .int (i * j)) Mu Mu (vI a) (vI b) (vI (a * b)) := rv_IC h fun _ _ => rfl
theorem rv_eq_of {r2 : R2} {x y : SV} {t t' : SV} (h : Rv K r2 Mu Mu1 x y t) (e : t = t') : Rv K r2 Mu Mu1 x y t' := e ▸ h

/-! ### what is known behind such a step -/
theorem bo {α β : Type} {p : Mr α} {q : α → Mr β} {c : β} {T : Prop} (h : (p >>= q) = .ok c) (f : ∀ x, p = .ok x → q x = .ok c → T) : T := by
  obtain ⟨x, e1, e2⟩ := bind_ok h
  exact f x e1 e2
theorem oeT {c c' : Bool} (e : (Except.ok c : Mr Bool) = .ok c') (h : EvT K tt G Mu Mu1 c) : EvT K tt G Mu Mu1 c' := by
  cases e
  exact h
theorem oeV {x y : α} (e : (Except.ok x : Mr α) = .ok y) (h : EvV K te G Mu Mu1 (.val (tv R x))) : EvV K te G Mu Mu1 (.val (tv R y)) := by
  cases e
  exact h
theorem et_andM {a c : Bool} {p : Mr Bool} (h1 : EvT K tt G Mu Mu1 a) (hc : (if a = true then p else .ok false) = .ok c) (h2 : a = true → p = .ok c → EvT K tu G Mu1 Mu1 c) : EvT K (tAnd tt tu) G Mu Mu1 c := by
  cases a with
  | true =>
    rw [if_pos rfl] at hc
    have := et_and (Mu3 := Mu1) h1 (fun _ => h2 rfl hc) (fun _ => rfl) (fun z => nomatch z)
    simpa using this
  | false =>
    rw [if_neg Bool.false_ne_true] at hc
    cases hc
    exact et_and (a := false) (b := false) (Mu2 := Mu1) (Mu3 := Mu1) h1 (fun z => nomatch z) (fun z => nomatch z) (fun _ => rfl)
theorem et_orM {a c : Bool} {p : Mr Bool} (h1 : EvT K tt G Mu Mu1 a) (hc : (if a = true then .ok true else p) = .ok c) (h2 : a = false → p = .ok c → EvT K tu G Mu1 Mu1 c) : EvT K (tOr tt tu) G Mu Mu1 c := by
  cases a with
  | false =>
    rw [if_neg Bool.false_ne_true] at hc
    have := et_or (Mu3 := Mu1) h1 (fun _ => h2 rfl hc) (fun _ => rfl) (fun z => nomatch z)
    simpa using this
  | true =>
    rw [if_pos rfl] at hc
    cases hc
    exact et_or (a := true) (b := false) (Mu2 := Mu1) (Mu3 := Mu1) h1 (fun z => nomatch z) (fun z => nomatch z) (fun _ => rfl)
theorem et_and0 {a b : Bool} (h1 : EvT K tt G Mu Mu1 a) (h2 : EvT K tu G Mu1 Mu1 b) : EvT K (tAnd tt tu) G Mu Mu1 (a && b) := et_and h1 (fun _ => h2) (fun _ => rfl) (fun _ => rfl)
theorem et_or0 {a b : Bool} (h1 : EvT K tt G Mu Mu1 a) (h2 : EvT K tu G Mu1 Mu1 b) : EvT K (tOr tt tu) G Mu Mu1 (a || b) := et_or h1 (fun _ => h2) (fun _ => rfl) (fun _ => rfl)
/-- and, or as values (bools) -/
theorem ev_andM {a c : Bool} {p : Mr Bool} (h1 : EvV K ta G Mu Mu1 (vB a)) (hc : (if a = true then p else .ok false) = .ok c) (h2 : a = true → p = .ok c → EvV K tb G Mu1 Mu1 (vB c)) : EvV K (tAndV ta tb) G Mu Mu1 (vB c) := fun B σ S ls H Q sl hs q =>
  h1 B σ S ls H _ sl hs fun v S1 l1 H1 a1 b1 c1 d1 => by
    have d1 : v = .bl a := d1
    refine ⟨a, d1, ?_⟩
    cases a with
    | true =>
      rw [if_pos rfl] at hc
      exact h2 rfl hc B σ S1 l1 H1 Q (sl.mono a1 b1) c1 (q.mono a1 b1)
    | false =>
      rw [if_neg Bool.false_ne_true] at hc
      cases hc
      exact q _ S1 l1 H1 a1 b1 c1 rfl
theorem ev_orM {a c : Bool} {p : Mr Bool} (h1 : EvV K ta G Mu Mu1 (vB a)) (hc : (if a = true then .ok true else p) = .ok c) (h2 : a = false → p = .ok c → EvV K tb G Mu1 Mu1 (vB c)) : EvV K (tOrV ta tb) G Mu Mu1 (vB c) := fun B σ S ls H Q sl hs q =>
  h1 B σ S ls H _ sl hs fun v S1 l1 H1 a1 b1 c1 d1 => by
    have d1 : v = .bl a := d1
    refine ⟨a, d1, ?_⟩
    cases a with
    | false =>
      rw [if_neg Bool.false_ne_true] at hc
      exact h2 rfl hc B σ S1 l1 H1 Q (sl.mono a1 b1) c1 (q.mono a1 b1)
    | true =>
      rw [if_pos rfl] at hc
      cases hc
      exact q _ S1 l1 H1 a1 b1 c1 rfl
theorem ev_and0 {a b : Bool} (h1 : EvV K ta G Mu Mu1 (vB a)) (h2 : EvV K tb G Mu1 Mu1 (vB b)) : EvV K (tAndV ta tb) G Mu Mu1 (vB (a && b)) := by
  refine ev_andM (c := a && b) (p := .ok b) h1 (by cases a <;> rfl) fun e _ => ?_
  subst e
  exact h2
theorem ev_or0 {a b : Bool} (h1 : EvV K ta G Mu Mu1 (vB a)) (h2 : EvV K tb G Mu1 Mu1 (vB b)) : EvV K (tOrV ta tb) G Mu Mu1 (vB (a || b)) := by
  refine ev_orM (c := a || b) (p := .ok b) h1 (by cases a <;> rfl) fun e _ => ?_
  subst e
  exact h2
theorem ev_notV {a : Bool} (h1 : EvV K ta G Mu Mu1 (vB a)) : EvV K (tNotV ta) G Mu Mu1 (vB (!a)) := fun B σ S ls H Q sl hs q =>
  h1 B σ S ls H _ sl hs fun v S1 l1 H1 a1 b1 c1 d1 => ⟨a, d1, q _ S1 l1 H1 a1 b1 c1 rfl⟩
theorem ev_ite {c : Bool} {x y : α} (h : EvT K tt G Mu Mu1 c) (h1 : c = true → EvV K ta G Mu1 Mu2 (.val (tv R x))) (h2 : c = false → EvV K tb G Mu1 Mu2 (.val (tv R y))) : EvV K (tIf tt ta tb) G Mu Mu2 (.val (tv R (if c = true then x else y))) := by
  cases c with
  | true => exact ev_ifM h (fun _ => by rw [if_pos rfl]; exact h1 rfl) (fun z => nomatch z)
  | false => exact ev_ifM h (fun z => nomatch z) (fun _ => by rw [if_neg Bool.false_ne_true]; exact h2 rfl)
theorem ev_iteM {c : Bool} {x : α} {p q : Mr α} (h : EvT K tt G Mu Mu1 c) (e : (if c = true then p else q) = .ok x) (h1 : c = true → p = .ok x → EvV K ta G Mu1 Mu2 (.val (tv R x))) (h2 : c = false → q = .ok x → EvV K tb G Mu1 Mu2 (.val (tv R x))) : EvV K (tIf tt ta tb) G Mu Mu2 (.val (tv R x)) := by
  cases c with
  | true =>
    rw [if_pos rfl] at e
    exact ev_ifM h (fun _ => h1 rfl e) (fun z => nomatch z)
  | false =>
    rw [if_neg Bool.false_ne_true] at e
    exact ev_ifM h (fun z => nomatch z) (fun _ => h2 rfl e)

/-! ### texts, as the lists of their signs -/
def rTxt : Rep (List Nat) := ⟨fun _ _ v a => v = .str ⟨a.toArray⟩, fun _ q => q⟩
abbrev vX (a : List Nat) : SV := .val (tv rTxt a)
theorem ev_txt {z : Str} {l : List Nat} (h : z = ⟨l.toArray⟩) : EvV K (tC (.str z)) G Mu Mu (vX l) := ev_c fun _ _ => by
  subst h
  rfl
theorem str_inj {l l' : List Nat} : ((⟨l.toArray⟩ : Str) = ⟨l'.toArray⟩) ↔ l = l' := by
  constructor
  · intro h
    have := congrArg (fun z : Str => z.cps.toList) h
    simpa using this
  · intro h
    rw [h]
theorem rv_eqX {x y : List Nat} : Rv K rEq Mu Mu (vX x) (vX y) (vB (decide (x = y))) := rv_same fun B S ls H u v Q hs ha hb q => by
  cases ha
  cases hb
  refine ⟨rfl, q _ ?_⟩
  show V.bl _ = V.bl _
  congr 1
  exact Bool.eq_iff_iff.mpr (by rw [decide_eq_true_iff, decide_eq_true_iff, V.str.injEq]; exact str_inj)
theorem rv_neX {x y : List Nat} : Rv K rNe Mu Mu (vX x) (vX y) (vB (!decide (x = y))) := rv_same fun B S ls H u v Q hs ha hb q => by
  cases ha
  cases hb
  refine ⟨rfl, q _ ?_⟩
  show V.bl _ = V.bl _
  congr 2
  exact Bool.eq_iff_iff.mpr (by rw [decide_eq_true_iff, decide_eq_true_iff, V.str.injEq]; exact str_inj)
theorem flat_txt : Flat rTxt := ⟨fun h => by cases h; rfl, fun h h2 => by
  cases h
  cases h2
  show ((⟨_⟩ : Str) == ⟨_⟩) = _
  exact Bool.eq_iff_iff.mpr (by rw [beq_iff_eq, beq_iff_eq]; exact str_inj)⟩
theorem ty_txt : TyR rTxt "str" := fun h _ => by cases h; exact .base (.str _)
/-! ### targets of tuples -/
theorem eg_nil : ∀ {vs : List V} {σ : St} {H : Hp} {Q : St → Hp → Prop}, vs = [] → Q σ H → gNil vs σ H Q := fun e q => ⟨e, q⟩
theorem eg_tup2 {i j : Nat} {x : α × β} : EvG K (gTup K 2 (gCons (gName i) (gCons (gName j) gNil))) (.val (tv (rP2 A B') x)) G ((G.set i (some (.val (tv A x.1)))).set j (some (.val (tv B' x.2)))) := fun B v σ S ls Mu H Q r sl hs q => by
  obtain ⟨p, vs, e, sq, l, rr⟩ := r
  have sq : SqT K S p vs := SqT.of sq
  cases rr with
  | cons r0 rr => cases rr with
    | cons r1 rr =>
      cases rr
      exact ⟨p, _, e, same_seqT hs.ex sq, rfl, _, _, rfl, _, _, rfl, rfl, q _ (Sl.set (s := .val (tv B' x.2)) (Sl.set (s := .val (tv A x.1)) sl r0) r1)⟩
theorem eg_tup3 {i j m : Nat} {x : α × β × γ} : EvG K (gTup K 3 (gCons (gName i) (gCons (gName j) (gCons (gName m) gNil)))) (.val (tv (rP3 A B' C) x)) G (((G.set i (some (.val (tv A x.1)))).set j (some (.val (tv B' x.2.1)))).set m (some (.val (tv C x.2.2)))) := fun B v σ S ls Mu H Q r sl hs q => by
  obtain ⟨p, vs, e, sq, l, rr⟩ := r
  have sq : SqT K S p vs := SqT.of sq
  cases rr with
  | cons r0 rr => cases rr with
    | cons r1 rr => cases rr with
      | cons r2 rr =>
        cases rr
        exact ⟨p, _, e, same_seqT hs.ex sq, rfl, _, _, rfl, _, _, rfl, _, _, rfl, rfl, q _ (Sl.set (s := .val (tv C x.2.2)) (Sl.set (s := .val (tv B' x.2.1)) (Sl.set (s := .val (tv A x.1)) sl r0) r1) r2)⟩
/-- target = e -/
theorem eb_asgG {ω : Type} {W : Xw} {np : Nat} {κ : ω → OS} {m : Mr ω} {u : TS} {tg : TG} {G' : Gm} (h : EvV K te G Mu Mu1 s) (hg : EvG K tg s G G') (r' : EvB K W np u G' Mu1 κ m) : EvB K W np (tSeq (tAsg te tg) u) G Mu κ m := fun B σ S ls H D w hn sl hs e q =>
  h B σ S ls H _ sl hs fun v S1 l1 H1 a1 b1 c1 d1 => hg B v σ S1 l1 Mu1 H1 _ d1 (sl.mono a1 b1) c1 fun σ' sl' => r' B σ' S1 l1 H1 D w hn sl' c1 e (q.mono a1 b1)
/-! ### displays of tuples -/
theorem ev_mk1 {ta : TA} {x : α} (h : EvA K ta G Mu Mu1 [.val (tv A x)]) : EvV K (tTup ta) G Mu Mu1 (.val (tv (rP1 A) x)) := ev_tup (ts := [tv A x]) h
theorem ev_mk2 {ta : TA} {x : α} {y : β} (h : EvA K ta G Mu Mu1 [.val (tv A x), .val (tv B' y)]) : EvV K (tTup ta) G Mu Mu1 (.val (tv (rP2 A B') (x, y))) := ev_tup (ts := [tv A x, tv B' y]) h
theorem ev_mk3 {ta : TA} {x : α} {y : β} {z : γ} (h : EvA K ta G Mu Mu1 [.val (tv A x), .val (tv B' y), .val (tv C z)]) : EvV K (tTup ta) G Mu Mu1 (.val (tv (rP3 A B' C) (x, y, z))) := ev_tup (ts := [tv A x, tv B' y, tv C z]) h
theorem ev_mk4 {ta : TA} {x : α} {y : β} {z : γ} {u : δ} (h : EvA K ta G Mu Mu1 [.val (tv A x), .val (tv B' y), .val (tv C z), .val (tv D' u)]) : EvV K (tTup ta) G Mu Mu1 (.val (tv (rP4 A B' C D') (x, y, z, u))) := ev_tup (ts := [tv A x, tv B' y, tv C z, tv D' u]) h
/-- () and (a, b, ..) of one kind -/
theorem ev_mkV {ta : TA} {ss : List SV} (h : EvA K ta G Mu Mu1 ss) (e : ss = (xs.map (tv R)).map .val := by rfl) (hl : Nat.ble (xs.map (tv R)).length 64 = true := by rfl) : EvV K (tTup ta) G Mu Mu1 (.val (tv (rTup R) xs)) := ev_tup (ts := xs.map (tv R)) h e hl
theorem ef_mkL {ta : TA} {ss : List SV} (h : EvA K ta G Mu Mu1 ss) (e : ss = (xs.map (tv R)).map .val := by rfl) (hl : Nat.ble (xs.map (tv R)).length 64 = true := by rfl) : EvF K (tLst ta) G Mu Mu1 (mL (xs.map (tv R))) := ef_lst (ts := xs.map (tv R)) h e hl
theorem ev_lstR (h : EvF K te G Mu Mu1 (mL (xs.map (tv R)))) (hl : Nat.ble Mu.length Mu1.length = true := by rfl) : EvV K te G Mu Mu1 (.val (tv (rList R) xs)) := ev_lst h hl
/-- t + u, tuples -/
theorem rv_catT {k1 : Nat} (h1 : IsSq K Mu s .t ts) (h2 : IsSq K Mu s2 .t us) (e1 : ts ≠ []) (e2 : us ≠ []) (hz : ts.length + us.length ≤ sizeLine) : Rv K (rCatA K) Mu Mu s s2 (.val (tupT (ts ++ us))) := fun B S ls H x y Q hs ha hb q => by
  obtain ⟨p, vs, e, sq, l, r⟩ := h1 B S ls H _ hs ha
  obtain ⟨p2, vs2, e', sq2, l2, r2⟩ := h2 B S ls H _ hs hb
  have sq : SqT K H p vs := SqT.of sq
  have sq2 : SqT K H p2 vs2 := SqT.of sq2
  have hl : vs.length + vs2.length ≤ sizeLine := by
    rw [Paired.length r, Paired.length r2]
    exact hz
  have n1 : vs ≠ [] := fun z => by
    subst z
    have := Paired.length r
    exact e1 (List.eq_nil_of_length_eq_zero this.symm)
  have n2 : vs2 ≠ [] := fun z => by
    subst z
    have := Paired.length r2
    exact e2 (List.eq_nil_of_length_eq_zero this.symm)
  exact ⟨p, p2, vs, vs2, e, e', sq, sq2, hl, fun z => absurd z n1, fun _ z => absurd z n2, fun _ _ p3 hp3 => new_tup hs hp3 (by rw [List.length_append]; exact hl) (Paired.app r r2) q⟩
end
/-! ### where defs stand -/
/-- the def x, its promise and what a call asks beside -/
def OkF (P : Program) (w : World) (K : PySem.W.Frag) (mg : Str → Option Value) (base : Heap) (x : Str) (ps : List Str) (k : Nat) (sp : Sp) : Prop :=
  ∃ fd, FnOk P w K mg base CX0 k (He.ga K x) fd ps sp ∧ Binds K fd ps [] ∧ PySem.W.keepIn K (.ref (He.ga K x)) = true ∧ mg x = some (.ref (He.ga K x))
/-! ### the head's facts, over what the wanted names reach -/
inductive Fx where
  | fa (f : He.Fa) | tup (x : Str) (vs : List He.Dv) | lst (x : Str) (vs : List He.Dv) | blt (x : Str) (id : String) | own (f : PySem.W.Frag → Bool)
def Fx.ok (K : PySem.W.Frag) : Fx → Bool
  | .fa f => f.ok K
  | .own f => f K
  | .tup x vs => He.tupB K x vs && He.eqO (PySem.W.nsIn K mainGlobals x) (some (some (.ref (He.ga K x))))
  | .blt x id => He.eqO (PySem.W.nsIn K mainGlobals x) (some (some (.builtin id)))
  | .lst x vs => He.lstB K x vs && He.eqO (PySem.W.nsIn K mainGlobals x) (some (some (.ref (He.ga K x))))
theorem blt_ok {K : PySem.W.Frag} {h : Heap} {mg : Str → Option Value} (X : K.In h) (G : h.Ns mainGlobals mg) {x : Str} {id : String} (c : He.eqO (PySem.W.nsIn K mainGlobals x) (some (some (.builtin id))) = true) : mg x = some (.builtin id) := PySem.W.mg_of X G (He.eqO_ok c)
def reachT (g : Addr → Option Obj) : Nat → List Addr → List Addr
  | 0, as => as
  | n + 1, as => as ++ reachT g n (as.flatMap fun a => match g a with
    | some o => He.refsD o
    | none => [])
def asT (g : Addr → Option Obj) (xs : List Str) : List Addr := mainGlobals :: cStatics :: reachT g 4 (xs.map fun x => He.ga (He.frG g [mainGlobals]) x)
/-- C.m, a staticmethod: where its function lies -/
def sAd (K : PySem.W.Frag) (C : Addr) (m : Str) : Addr := match PySem.W.findCls K (.ref C) (.type "type") m with
  | some (.get _ (.ref q) _ _) => (match PySem.W.recIn K q "staticmethod" with
    | some (.ref f :: _) => f
    | _ => 0)
  | _ => 0
def sOf (K : PySem.W.Frag) (d : He.DefD) : Addr := sAd K (He.ga K d.at_.1) (d.at_.2.getD "")
def fnA (K : PySem.W.Frag) (f : Addr) : He.FnW := match K.lookup f with
  | some o => (match o.data with
    | .func z => some (z.name, z.qualname, z.params, z.body, z.scope, z.globals, z.closure, z.builtins)
    | _ => none)
  | none => none
def okA (K : PySem.W.Frag) (d : He.DefD) (f : Addr) : Bool := PySem.W.keepIn K (.ref f) && (match K.lookup f with
  | some o => (match o.data with
    | .func z => PySem.W.codeIn K z.code d.qual && (He.dflB K z.defaults (d.dvs K) && He.kwdB K z.kwdefaults (d.kws K))
    | _ => false)
  | none => false)
theorem funA {K : PySem.W.Frag} {d : He.DefD} {f : Addr} (e : fnA K f = d.val) (c : okA K d f = true) : ∃ fd, FunD K d.name d.qual d.params d.body d.scope (d.dvs K) (d.kws K) f fd := by
  obtain ⟨kp, c⟩ := Bool.and_eq_true_iff.mp c
  unfold fnA at e
  cases q : K.lookup f with
  | none =>
    rw [q] at c
    cases c
  | some o =>
    obtain ⟨b1, b2, dt, b3⟩ := o
    rw [q] at c e
    cases dt with
    | func z =>
      obtain ⟨z1, z2, z3, z4, z5, z6, z7, z8, z9, z10, z11, z12, z13, z14, z15⟩ := z
      have e : (some (z1, z2, z3, z4, z5, z6, z7, z15) : He.FnW) = some (d.name, d.qual, d.params, .stmts d.body, d.scope, mainGlobals, [], builtinsNs) := e
      injection e with e
      injection e with y1 e
      injection e with y2 e
      injection e with y3 e
      injection e with y4 e
      injection e with y5 e
      injection e with y6 e
      injection e with y7 y8
      subst y1 y2 y3 y4 y5 y6 y7 y8
      have c : (PySem.W.codeIn K z13 d.qual && (He.dflB K z8 (d.dvs K) && He.kwdB K z9 (d.kws K))) = true := c
      obtain ⟨c1, c⟩ := Bool.and_eq_true_iff.mp c
      obtain ⟨c2, c3⟩ := Bool.and_eq_true_iff.mp c
      exact ⟨_, ⟨b1, b2, z8, z9, z10, z11, z12, z13, z14, b3, rfl, q, c1, He.dflB_ok c2, He.kwdB_ok c3⟩, kp⟩
    | _ => cases c
/-- the defs and methods; the staticmethods -/
abbrev Fns : Type := List He.DefD × List He.DefD
def valT (fn : Fns) : He.AlD := (true, fn.1.map He.DefD.val ++ fn.2.map He.DefD.val)
def obsT (fa : List Fx) (fn : Fns) (K : PySem.W.Frag) : He.AlD := ((fa.all fun f => f.ok K) && ((fn.1.all fun d => d.ok K) && fn.2.all fun d => okA K d (sOf K d)), (fn.1.map fun d => He.fnW K d.at_) ++ fn.2.map fun d => fnA K (sOf K d))
def SaysT (fa : List Fx) (fn : Fns) (K : PySem.W.Frag) : Prop := obsT fa fn K = valT fn
def obsTG (xs : List Str) (fa : List Fx) (fn : Fns) (g : Addr → Option Obj) : He.AlD := obsT fa fn (He.frG g (asT g xs))
def hookT (xs : List Str) (fa : List Fx) (fn : Fns) : PySem.W.Hook where
  α := He.AlD
  obs := fun s => obsTG xs fa fn s.heap.get?
  val := fun _ => valT fn
  says := fun _ h => ∃ K : PySem.W.Frag, K.In h ∧ SaysT fa fn K
  of := fun _ _ e => ⟨_, He.frG_in, e⟩
  keeps := fun _ _ _ ⟨K, hK, c⟩ k => ⟨K, PySem.W.Frag.In.keeps hK k, c⟩
theorem obsTG_eq {xs : List Str} {fa : List Fx} {fn : Fns} {g : Addr → Option Obj} {s : Shared} (h : ∀ a, g a = s.heap.get? a) : obsTG xs fa fn g = (hookT xs fa fn).obs s := by
  have e : g = s.heap.get? := funext h
  rw [e] <;> rfl
section
variable {fa : List Fx} {fn : Fns} {K : PySem.W.Frag}
theorem SaysT.alls (c : SaysT fa fn K) : (fa.all fun f => f.ok K) = true ∧ (fn.1.all fun d => d.ok K) = true ∧ (fn.2.all fun d => okA K d (sOf K d)) = true := by
  have c1 := He.ba (show ((fa.all fun f => f.ok K) && ((fn.1.all fun d => d.ok K) && fn.2.all fun d => okA K d (sOf K d))) = true from congrArg (fun z : He.AlD => z.1) c)
  exact ⟨c1.1, He.ba c1.2⟩
theorem SaysT.fact (c : SaysT fa fn K) (i : Nat) {f : Fx} (h : fa[i]? = some f := by rfl) : f.ok K = true := List.all_eq_true.mp c.alls.1 f (List.mem_of_getElem? h)
theorem SaysT.lists (c : SaysT fa fn K) : fn.1.map (fun d => He.fnW K d.at_) = fn.1.map He.DefD.val ∧ fn.2.map (fun d => fnA K (sOf K d)) = fn.2.map He.DefD.val :=
  List.append_inj (congrArg (fun z : He.AlD => z.2) c) (by rw [List.length_map, List.length_map])
theorem SaysT.def_ (c : SaysT fa fn K) (i : Nat) {d : He.DefD} (h : fn.1[i]? = some d := by rfl) : ∃ fd, FunD K d.name d.qual d.params d.body d.scope (d.dvs K) (d.kws K) (He.fAd K d.at_) fd := by
  have e2 : (fn.1.map fun d => He.fnW K d.at_)[i]? = (fn.1.map He.DefD.val)[i]? := by rw [c.lists.1]
  rw [List.getElem?_map, List.getElem?_map, h] at e2
  exact He.DefD.funD (Option.some.inj e2) (List.all_eq_true.mp c.alls.2.1 d (List.mem_of_getElem? h))
theorem SaysT.sdef (c : SaysT fa fn K) (i : Nat) {d : He.DefD} (h : fn.2[i]? = some d := by rfl) : ∃ fd, FunD K d.name d.qual d.params d.body d.scope (d.dvs K) (d.kws K) (sOf K d) fd := by
  have e2 : (fn.2.map fun d => fnA K (sOf K d))[i]? = (fn.2.map He.DefD.val)[i]? := by rw [c.lists.2]
  rw [List.getElem?_map, List.getElem?_map, h] at e2
  exact funA (Option.some.inj e2) (List.all_eq_true.mp c.alls.2.2 d (List.mem_of_getElem? h))
end
/-- what the top has left -/
structure Txt (fa : List Fx) (fn : Fns) (K : PySem.W.Frag) (mg : Str → Option Value) : Prop where
  c : SaysT fa fn K
  gl : ∀ x, (He.Fa.glo x).ok K = true → mg x = some (.ref (He.ga K x))
  fr : ∀ x, (He.Fa.free x).ok K = true → mg x = none
  it : ∀ x i, (He.Fa.int x i).ok K = true → ∃ t, mg x = some (.int i t)
  st : ∀ x z, (He.Fa.str x z).ok K = true → ∃ t, mg x = some (.str z t)
  bl : ∀ x id, (Fx.blt x id).ok K = true → mg x = some (.builtin id)
section
variable {fa : List Fx} {fn : Fns} {K : PySem.W.Frag} {h : Heap} {mg : Str → Option Value}
theorem Txt.mk' (X : K.In h) (G : h.Ns mainGlobals mg) (c : SaysT fa fn K) : Txt fa fn K mg := ⟨c, fun x => He.glo_ok X G, fun x => He.free_ok X G, fun x i => He.int_ok X G, fun x z => He.str_ok X G, fun x id => blt_ok X G⟩
theorem Txt.free (T : Txt fa fn K mg) (i : Nat) {x : Str} (h : fa[i]? = some (.fa (.free x)) := by rfl) : mg x = none := T.fr x (T.c.fact i h)
theorem Txt.glob (T : Txt fa fn K mg) (i : Nat) {x : Str} (h : fa[i]? = some (.fa (.glo x)) := by rfl) : mg x = some (.ref (He.ga K x)) := T.gl x (T.c.fact i h)
theorem Txt.int (T : Txt fa fn K mg) (i : Nat) {x : Str} {n : Int} (h : fa[i]? = some (.fa (.int x n)) := by rfl) : ∃ u, mg x = some u ∧ RelV (.int n) u := by
  obtain ⟨t, e⟩ := T.it x n (T.c.fact i h)
  exact ⟨_, e, ⟨t, rfl⟩⟩
theorem Txt.str (T : Txt fa fn K mg) (i : Nat) {x z : Str} (h : fa[i]? = some (.fa (.str x z)) := by rfl) : ∃ u, mg x = some u ∧ RelV (.str z) u := by
  obtain ⟨t, e⟩ := T.st x z (T.c.fact i h)
  exact ⟨_, e, ⟨t, rfl⟩⟩
theorem Txt.blt (T : Txt fa fn K mg) (i : Nat) {x : Str} {id : String} (h : fa[i]? = some (.blt x id) := by rfl) : mg x = some (.builtin id) := T.bl x id (T.c.fact i h)
theorem Txt.own (T : Txt fa fn K mg) (i : Nat) {f : PySem.W.Frag → Bool} (h : fa[i]? = some (.own f) := by rfl) : f K = true := T.c.fact i h
theorem Txt.cls (T : Txt fa fn K mg) (i : Nat) {x : Str} (h : fa[i]? = some (.fa (.cls x)) := by rfl) : Cls K (He.ga K x) := He.cls_ok (T.c.fact i h)
theorem Txt.noat (T : Txt fa fn K mg) (i : Nat) {x f : Str} (h : fa[i]? = some (.fa (.noat x f)) := by rfl) : NoAttr K (He.ga K x) f := He.noat_ok (T.c.fact i h)
theorem Txt.meth (T : Txt fa fn K mg) (i : Nat) {x m : Str} (h : fa[i]? = some (.fa (.meth x m)) := by rfl) : Meth K (He.ga K x) m (He.ma K (He.ga K x) m) := He.meth_ok (T.c.fact i h)
theorem Txt.mkr (T : Txt fa fn K mg) (i : Nat) {x : Str} (h : fa[i]? = some (.fa (.mkr x)) := by rfl) : Mk K (He.ga K x) (He.ma K (He.ga K x) "__init__") := He.mkr_ok (T.c.fact i h)
theorem Txt.exm (T : Txt fa fn K mg) (i : Nat) {x y : Str} {b : Bool} (h : fa[i]? = some (.fa (.exm x y b)) := by rfl) : PySem.W.exmOne K (.ref (He.ga K x)) (.ref (He.ga K y)) = some b := He.exm_ok (T.c.fact i h)
theorem Txt.tup (T : Txt fa fn K mg) (i : Nat) {x : Str} {vs : List He.Dv} (h : fa[i]? = some (.tup x vs) := by rfl) : He.tupB K x vs = true ∧ ∃ u, mg x = some u ∧ RelV (.ref (He.ga K x)) u := by
  obtain ⟨h1, h2⟩ := He.ba (show (He.tupB K x vs && He.eqO (PySem.W.nsIn K mainGlobals x) (some (some (.ref (He.ga K x))))) = true from T.c.fact i h)
  exact ⟨h1, _, T.gl x h2, rfl⟩
end
end TL

/-! TL, seventh part: short forms for the generator; freezing; == of data. -/
namespace TL
open PySem L2
section
variable {ω : Type} {W : Xw} {np : Nat} {κ : ω → OS} {m : Mr ω} {u t : TS} {K : PySem.W.Frag} {G G' : Gm} {Mu Mu1 Mu2 Mu3 : Mm} {te ta tb tl : TE} {tt tu : TT} {ts us : List TV} {s s' s2 : SV} {k k2 : Knd} {a b r : Int} {α β γ δ : Type} {R : Rep α} {R' : Rep β} {xs ys : List α}
theorem ei_L (h : EvV K tl G Mu Mu1 (.val (tv (rSq k R) xs))) (hk : k.isL = true := by rfl) : EvI K (iList K tl) G Mu Mu1 (xs.map (tv R)) AnyM ((xs.map (tv R)).length ≤ sizeLine) := ei_list h hk
theorem ei_V (h : EvV K tl G Mu Mu1 (.val (tv (rSq k R) xs))) (hk : k.isL = false := by rfl) : EvI K (iTup K tl) G Mu Mu1 (xs.map (tv R)) AnyM ((xs.map (tv R)).length ≤ sizeLine) := ei_tup h hk
theorem ei_C (oc : Option Addr) {j : Nat} (h : EvV K tl G Mu Mu1 (.cell j)) (hm : Mu1[j]? = some (some (pin oc (mL (xs.map (tv R)))))) : EvI K (iList K tl) G Mu Mu1 (xs.map (tv R)) (fun M => M[j]? = some (some (pin oc (mL (xs.map (tv R)))))) ((xs.map (tv R)).length ≤ sizeLine) := ei_cell oc h hm
theorem hz_map (h : (xs.map (tv R)).length ≤ sizeLine) : xs.length ≤ sizeLine := by rw [List.length_map] at h; exact h
theorem hz_size {r : Unit} (h : sizeP xs = .ok r) : xs.length ≤ sizeLine := by
  unfold sizeP at h
  split at h
  · rw [sizeLine_eq]
    assumption
  · cases h
theorem hz_ble {n : Nat} (h : Nat.ble n 16777216 = true) : n ≤ sizeLine := by
  rw [sizeLine_eq]
  exact Nat.le_of_ble_eq_true h
theorem ev_as (h : EvV K te G Mu Mu1 s) (e : s = s') : EvV K te G Mu Mu1 s' := e ▸ h
theorem len_map {n : Nat} (h : xs.length = n) : (xs.map (tv R)).length = n := by rw [List.length_map]; exact h
theorem rc_lenL (h : IsSq K Mu s k (xs.map (tv R))) : Rc K (fun xs H Q => ∃ p ys, xs = [.ref p] ∧ (SqL K H p ys ∨ SqT K H p ys) ∧ Q (.int ys.length) H) Mu Mu [s] (vI (xs.length : Int)) := rc_len h (List.length_map _)
theorem rc_tupLR (h : IsSq K Mu s k (xs.map (tv R))) (hk : k.isL = true := by rfl) : Rc K (fun xs H Q => ∃ p ys, xs = [.ref p] ∧ ((SqL K H p ys ∧ ∀ l, H l = none → Q (.ref l) (upd H l (.tup ys))) ∨ (SqT K H p ys ∧ Q (.ref p) H))) Mu Mu [s] (.val (tv (rTup R) xs)) := rc_tupL h hk
theorem ef_slR {tl th : TO} {lo hi : Option Int} (h : EvV K te G Mu Mu1 s) (hl : EvO K tl G Mu1 Mu2 lo) (hh : EvO K th G Mu2 Mu3 hi) (hq : IsSq K Mu3 s k (xs.map (tv R))) (hk : k.isL = true := by rfl) : EvF K (tSl (rSlL K) te tl th) G Mu Mu3 (mL ((cut xs lo hi).map (tv R))) := by
  rw [← cut_map]
  exact ef_sl h hl hh hq hk
theorem ef_cb1 {r : List V → Hp → VK → Prop} {m : MV} (h : EvV K te G Mu Mu1 s) (hr : RcF K r Mu1 Mu2 [s] m) : EvF K (tCB r (tCons te tNil)) G Mu Mu2 m := ev_cb (ea_cons h ea_nil) hr
theorem ev_cb2 {r : List V → Hp → VK → Prop} (h : EvV K ta G Mu Mu1 s) (h2 : EvV K tb G Mu1 Mu2 s2) (hr : Rc K r Mu2 Mu3 [s, s2] s') : EvV K (tCB r (tCons ta (tCons tb tNil))) G Mu Mu3 s' := ev_cb (ea_cons h (ea_cons h2 ea_nil)) hr
/-- tuple(range(..)), list(range(..)) -/
theorem rgV_allT {S : Hp} : AllT K S (rgV a b) ((rngI a b).map (tv rInt)) := by
  have e : rgV a b = (rngI a b).map V.int := by
    unfold rgV rngI
    rw [List.map_map]
    rfl
  rw [e]
  exact ints_allT _
def rgOkP (a b : Int) : Prop := RgOk a b
theorem ev_tupRg1 (h : EvV K ta G Mu Mu1 (vI b)) (hb : RgOk 0 b) : EvV K (tTupRg (tRg1 ta)) G Mu Mu1 (.val (tv (rTup rInt) (rngI 0 b))) := fun B σ S ls H Q sl hs q =>
  h B σ S ls H _ sl hs fun x S1 l1 H1 a1 b1 c1 d1 => by
    refine ⟨b, d1, hb, fun p hp => ?_⟩
    refine new_tup (ts := (rngI 0 b).map (tv rInt)) c1 hp ?_ rgV_allT (q.mono a1 b1)
    rw [rgV_length, sizeLine_eq]
    have := hb.2.2.2.2
    omega
theorem ef_lstRg1 (h : EvV K ta G Mu Mu1 (vI b)) (hb : RgOk 0 b) : EvF K (tLstRg (tRg1 ta)) G Mu Mu1 (mL ((rngI 0 b).map (tv rInt))) := fun B σ S ls H Q sl hs q =>
  h B σ S ls H _ sl hs fun x S1 l1 H1 a1 b1 c1 d1 => by
    refine ⟨b, d1, hb, fun p hp => ?_⟩
    refine new_lst (ts := (rngI 0 b).map (tv rInt)) c1 hp ?_ rgV_allT (q.mono a1 b1)
    rw [rgV_length, sizeLine_eq]
    have := hb.2.2.2.2
    omega
/-! ### an own cell becomes a value -/
def frzG (j : Nat) (t : TV) : Gm → Gm
  | [] => []
  | some (.cell i) :: r => (if Nat.beq i j = true then some (.val t) else some (.cell i)) :: frzG j t r
  | o :: r => o :: frzG j t r
theorem frzG_len {j : Nat} {t : TV} : ∀ G : Gm, (frzG j t G).length = G.length
  | [] => rfl
  | some (.cell i) :: r => congrArg (· + 1) (frzG_len r)
  | some (.val _) :: r => congrArg (· + 1) (frzG_len r)
  | none :: r => congrArg (· + 1) (frzG_len r)
theorem frzG_get {j : Nat} {t : TV} : ∀ {G : Gm} {i : Nat} {s : SV}, (frzG j t G)[i]? = some (some s) → G[i]? = some (some s) ∨ (G[i]? = some (some (.cell j)) ∧ s = .val t)
  | [], i, s, h => by simp [frzG] at h
  | some (.cell c) :: r, 0, s, h => by
    have h : (if Nat.beq c j = true then some (SV.val t) else some (SV.cell c)) = some s := by simpa [frzG] using h
    by_cases e : Nat.beq c j = true
    · rw [if_pos e] at h
      cases h
      have := Nat.eq_of_beq_eq_true e
      subst this
      exact .inr ⟨rfl, rfl⟩
    · rw [if_neg e] at h
      cases h
      exact .inl rfl
  | some (.val _) :: r, 0, s, h => .inl h
  | none :: r, 0, s, h => .inl h
  | some (.cell c) :: r, i + 1, s, h => frzG_get (G := r) (i := i) (by simpa [frzG] using h)
  | some (.val _) :: r, i + 1, s, h => frzG_get (G := r) (i := i) (by simpa [frzG] using h)
  | none :: r, i + 1, s, h => frzG_get (G := r) (i := i) (by simpa [frzG] using h)
theorem eb_frz {j : Nat} {mv : MV} {tv' : TV} (hk : Mu[j]? = some (some mv)) (f : Frz mv tv') (h : EvB K W np t (frzG j tv' G) (Mu.set j none) κ m) : EvB K W np t G Mu κ m := fun B σ S ls H D w hn sl hs e q => by
  obtain ⟨a, S2, e1, s1, h2, ht⟩ := hs.freeze hk f
  refine h B σ S2 ls H D w hn ⟨by rw [frzG_len]; exact sl.1, fun i s' es => ?_⟩ h2 e (q.mono s1 (Pre.refl _))
  rcases frzG_get es with z | ⟨z, es'⟩
  · obtain ⟨v, f1, f2⟩ := sl.2 i s' z
    exact ⟨v, f1, SV.mono s1 (Pre.refl _) f2⟩
  · subst es'
    obtain ⟨v, f1, ⟨a', g1, g2⟩⟩ := sl.2 i _ z
    rw [e1] at g1
    cases g1
    subst g2
    exact ⟨_, f1, ht⟩
theorem frz_L : Frz (mL (xs.map (tv R))) (tv (rList R) xs) := frz_l
end

theorem pairR {α β : Type} {p : Mr (α × β)} {r : α × β} (h : p = .ok r) : p = .ok (r.1, r.2) := h
section
variable {K : PySem.W.Frag} {G : Gm} {Mu Mu1 : Mm} {te : TE} {tt : TT} {α β : Type} {R : Rep α} {xs ys : List α}
theorem oeF (e : (Except.ok xs : Mr (List α)) = .ok ys) (h : EvF K te G Mu Mu1 (mL (xs.map (tv R)))) : EvF K te G Mu Mu1 (mL (ys.map (tv R))) := by
  cases e
  exact h
/-- of a pair: the value and the state behind -/
theorem oeP {mu : β → Mm} {x y : α} {s s' : β} (e : (Except.ok (x, s) : Mr (α × β)) = .ok (y, s')) (h : EvV K te G Mu (mu s) (.val (tv R x))) : EvV K te G Mu (mu s') (.val (tv R y)) := by
  cases e
  exact h
theorem filIf {b : Bool} {p : Mr (Option α)} {o : Option α} (e : (if b = true then p else .ok none) = .ok o) (ht : EvT K tt G Mu Mu b) (h : p = .ok o → ∃ y, o = some y ∧ EvV K te G Mu Mu (.val (tv R y))) :
    ∃ b, EvT K tt G Mu Mu b ∧ (b = true → ∃ y, o = some y ∧ EvV K te G Mu Mu (.val (tv R y))) ∧ (b = false → o = none) := by
  cases b with
  | true =>
    rw [if_pos rfl] at e
    exact ⟨true, ht, fun _ => h e, fun z => nomatch z⟩
  | false =>
    rw [if_neg Bool.false_ne_true] at e
    cases e
    exact ⟨false, ht, fun z => (nomatch z), fun _ => rfl⟩
theorem oeO {x : α} {o : Option α} (e : (Except.ok (some x) : Mr (Option α)) = .ok o) (h : EvV K te G Mu Mu1 (.val (tv R x))) : ∃ y, o = some y ∧ EvV K te G Mu Mu1 (.val (tv R y)) := by
  cases e
  exact ⟨x, rfl, h⟩
end
/-! ### == of data -/
structure DRep {α : Type} [BEq α] (R : Rep α) (d : Nat) where
  enc : α → PyData
  ok : α → Bool
  dp : ∀ {K S v a}, R.p K S v a → Dp K S v (enc a)
  lay : ∀ a, ok a = true → (enc a).canLay0 = true
  dep : ∀ a, (enc a).depth ≤ d
  eq : ∀ a b, PyData.eqv (enc a) (enc b) = (a == b)
def drInt : DRep rInt 0 := ⟨.int, fun _ => true, fun h => by cases h; exact .int _, fun _ _ => rfl, fun _ => Nat.le_refl _, fun _ _ => rfl⟩
def drBool : DRep rBool 0 := ⟨.bool, fun _ => true, fun h => by cases h; exact .bl _, fun _ _ => rfl, fun _ => Nat.le_refl _, fun _ _ => rfl⟩
theorem dpAll {α : Type} [BEq α] {R : Rep α} {d : Nat} (D : DRep R d) {K : PySem.W.Frag} {S : Hp} : ∀ {vs : List V} {xs : List α}, AllT K S vs (xs.map (tv R)) → DpAll K S vs (xs.map D.enc)
  | [], [], _ => .nil
  | [], _ :: _, h => nomatch h
  | _ :: _, [], h => nomatch h
  | _ :: _, _ :: _, .cons r t => .cons (D.dp r) (dpAll D t)
theorem layAll {α : Type} [BEq α] {R : Rep α} {d : Nat} (D : DRep R d) : ∀ xs : List α, xs.all D.ok = true → PyData.canLayAll0 (xs.map D.enc) = true
  | [], _ => rfl
  | x :: xs, h => by
    have h := Bool.and_eq_true_iff.mp (show (D.ok x && xs.all D.ok) = true from h)
    show (PyData.canLay0 (D.enc x) && PyData.canLayAll0 (xs.map D.enc)) = true
    rw [D.lay x h.1, layAll D xs h.2]
    rfl
theorem depAll {α : Type} [BEq α] {R : Rep α} {d : Nat} (D : DRep R d) : ∀ xs : List α, PyData.depthAll (xs.map D.enc) ≤ d
  | [] => Nat.zero_le _
  | x :: xs => by
    show Nat.max (PyData.depth (D.enc x)) (PyData.depthAll (xs.map D.enc)) ≤ d
    exact Nat.max_le.mpr ⟨D.dep x, depAll D xs⟩
theorem eqAll {α : Type} [BEq α] {R : Rep α} {d : Nat} (D : DRep R d) : ∀ xs ys : List α, PyData.eqvAll (xs.map D.enc) (ys.map D.enc) = (xs == ys)
  | [], [] => rfl
  | [], _ :: _ => rfl
  | _ :: _, [] => rfl
  | x :: xs, y :: ys => by
    show (PyData.eqv (D.enc x) (D.enc y) && PyData.eqvAll (xs.map D.enc) (ys.map D.enc)) = _
    rw [D.eq, eqAll D xs ys]
    rfl
theorem dtInt : ∀ a, drInt.ok a = true := fun _ => rfl
theorem dtBool : ∀ a, drBool.ok a = true := fun _ => rfl
theorem dtAll {α : Type} [BEq α] {R : Rep α} {d : Nat} {D : DRep R d} (h : ∀ a, D.ok a = true) (xs : List α) : xs.all D.ok = true := List.all_eq_true.mpr fun x _ => h x
def drTxt : DRep rTxt 0 := ⟨fun l => .str ⟨l.toArray⟩, okT, fun h => by cases h; exact .str _, fun a h => by
  show ((⟨a.toArray⟩ : Str).cps.all fun c => decide (c < 0x110000)) = true
  rw [Array.all_toList.symm]
  exact h, fun _ => Nat.le_refl _, fun a b => by
  show ((⟨a.toArray⟩ : Str) == ⟨b.toArray⟩) = (a == b)
  rw [Bool.eq_iff_iff, beq_iff_eq, beq_iff_eq]
  exact str_inj⟩
def drL {α : Type} [BEq α] {R : Rep α} {d : Nat} (D : DRep R d) : DRep (rSq .l R) (d + 1) where
  enc := fun xs => .list (xs.map D.enc)
  ok := fun xs => xs.all D.ok
  dp := fun ⟨p, vs, e, q, l, r⟩ => by
    subst e
    exact .lst (SqK.seq q rfl) (dpAll D r)
  lay := fun xs h => layAll D xs h
  dep := fun xs => by
    show PyData.depthAll (xs.map D.enc) + 1 ≤ d + 1
    have := depAll D xs
    omega
  eq := fun xs ys => eqAll D xs ys
def drV {α : Type} [BEq α] {R : Rep α} {d : Nat} (D : DRep R d) : DRep (rSq .t R) (d + 1) where
  enc := fun xs => .tuple (xs.map D.enc)
  ok := fun xs => xs.all D.ok
  dp := fun {K S v a} ⟨p, vs, e, q, l, r⟩ => by
    subst e
    have q : SqT K S p vs := SqT.of q
    exact .tup q (dpAll D r)
  lay := fun xs h => layAll D xs h
  dep := fun xs => by
    show PyData.depthAll (xs.map D.enc) + 1 ≤ d + 1
    have := depAll D xs
    omega
  eq := fun xs ys => eqAll D xs ys
mutual
theorem Dp.same {K : PySem.W.Frag} {H H' : Hp} (e : Same H H') : ∀ {v : V} {d : PyData}, Dp K H v d → Dp K H' v d
  | _, _, .non => .non
  | _, _, .bl b => .bl b
  | _, _, .int i => .int i
  | _, _, .str x => .str x
  | _, _, .lst h a => .lst (Same.seq e h) (DpAll.same e a)
  | _, _, .tup h a => .tup (same_seqT e h) (DpAll.same e a)
theorem DpAll.same {K : PySem.W.Frag} {H H' : Hp} (e : Same H H') : ∀ {v : List V} {d : List PyData}, DpAll K H v d → DpAll K H' v d
  | _, _, .nil => .nil
  | _, _, .cons h a => .cons (Dp.same e h) (DpAll.same e a)
end
theorem rv_eqD {α : Type} [BEq α] {R : Rep α} {d : Nat} {K : PySem.W.Frag} {Mu : Mm} {a b : α} (D : DRep R d) (hd : d ≤ 64) (oa : D.ok a = true) (ob : D.ok b = true) : Rv K (rEqD K) Mu Mu (.val (tv R a)) (.val (tv R b)) (vB (a == b)) := rv_same fun B S ls H x y Q hs ha hb q => by
  have sh : ∀ z, D.ok z = true → SeqAt.shaped (D.enc z) = true := fun z oz => by
    show (PyData.canLay0 (D.enc z) && decide (PyData.depth (D.enc z) ≤ 64)) = true
    rw [D.lay z oz, decide_eq_true (Nat.le_trans (D.dep z) hd)]
    rfl
  exact ⟨D.enc a, D.enc b, Dp.same hs.ex (D.dp ha), Dp.same hs.ex (D.dp hb), sh a oa, sh b ob, q _ (congrArg V.bl (D.eq a b))⟩
theorem rv_neD {α : Type} [BEq α] {R : Rep α} {d : Nat} {K : PySem.W.Frag} {Mu : Mm} {a b : α} (D : DRep R d) (hd : d ≤ 64) (oa : D.ok a = true) (ob : D.ok b = true) : Rv K (rNeD K) Mu Mu (.val (tv R a)) (.val (tv R b)) (vB (!(a == b))) := rv_same fun B S ls H x y Q hs ha hb q => by
  have sh : ∀ z, D.ok z = true → SeqAt.shaped (D.enc z) = true := fun z oz => by
    show (PyData.canLay0 (D.enc z) && decide (PyData.depth (D.enc z) ≤ 64)) = true
    rw [D.lay z oz, decide_eq_true (Nat.le_trans (D.dep z) hd)]
    rfl
  exact ⟨D.enc a, D.enc b, Dp.same hs.ex (D.dp ha), Dp.same hs.ex (D.dp hb), sh a oa, sh b ob, q _ (congrArg V.bl (congrArg not (D.eq a b)))⟩

/-! ### rules at a named K (within a comprehension's block the context is another one) -/
section
variable {X : Cx} {K : PySem.W.Frag}
theorem kIxL (h : X.K = K := by rfl) : IxR X (rIxL K) := h ▸ ix_list
theorem kIxT (h : X.K = K := by rfl) : IxR X (rIxT K) := h ▸ ix_tup
theorem kIn (h : X.K = K := by rfl) : OpR X (compareOp .In) (rIn K false) := h ▸ op_in_seq
theorem kNotIn (h : X.K = K := by rfl) : OpR X (compareOp .NotIn) (rIn K true) := h ▸ op_notIn_seq
theorem kCatA (h : X.K = K := by rfl) : OpR X (binaryOp .Add) (rCatA K) := h ▸ op_catA
theorem kSlL (h : X.K = K := by rfl) : SlR X (rSlL K) := h ▸ sl_list
theorem kSum (hc : X.calm = true) (h : X.K = K := by rfl) : CallR X (.builtin "sum") (rSum K) := h ▸ cr_sum hc
theorem kAny (hc : X.calm = true) (h : X.K = K := by rfl) : CallR X (.builtin "any") (rAny K) := h ▸ cr_any hc
theorem kAll (hc : X.calm = true) (h : X.K = K := by rfl) : CallR X (.builtin "all") (rAll K) := h ▸ cr_all hc
theorem kSorted (h : X.K = K := by rfl) : CallR X (.builtin "sorted") (rSortedI K) := h ▸ cr_sortedI
theorem kLen (h : X.K = K := by rfl) : CallR X (.builtin "len") (fun xs H Q => ∃ p ys, xs = [.ref p] ∧ (SqL K H p ys ∨ SqT K H p ys) ∧ Q (.int ys.length) H) := h ▸ call_len_seq
theorem kListOf (h : X.K = K := by rfl) : CallR X (.type "list") (fun xs H Q => ∃ p ys, xs = [.ref p] ∧ (SqL K H p ys ∨ SqT K H p ys) ∧ ∀ l, H l = none → Q (.ref l) (upd H l (.lst ys))) := h ▸ call_list_of
theorem kTupleOf (h : X.K = K := by rfl) : CallR X (.type "tuple") (fun xs H Q => ∃ p ys, xs = [.ref p] ∧ ((SqL K H p ys ∧ ∀ l, H l = none → Q (.ref l) (upd H l (.tup ys))) ∨ (SqT K H p ys ∧ Q (.ref p) H))) := h ▸ call_tuple_of
theorem kIsi (h : X.K = K := by rfl) : CallR X (.builtin "isinstance") (rIsi K) := h ▸ call_isi
theorem kEqD (hu : X.A.units + 64 < cLine) (h : X.K = K := by rfl) : OpR X (compareOp .Eq) (rEqD K) := h ▸ op_eqD hu
theorem kNeD (hu : X.A.units + 64 < cLine) (h : X.K = K := by rfl) : OpR X (compareOp .NotEq) (rNeD K) := h ▸ op_neD hu
theorem kPiL {tg l : Expr} {tl : TE} (hl : PE X l tl) (h : X.K = K := by rfl) : PI X tg l (iList K tl) := h ▸ pi_list hl
theorem kPiT {tg l : Expr} {tl : TE} (hl : PE X l tl) (h : X.K = K := by rfl) : PI X tg l (iTup K tl) := h ▸ pi_tup hl
end
end TL

/-! TL, eighth part: dicts, None beside a value, pop, max and min of lists. -/
namespace TL
open PySem L2
/-! ### None or a value -/
def rOpt {α : Type} (R : Rep α) : Rep (Option α) := ⟨fun K S v o => match o with
  | none => v = .non
  | some a => R.p K S v a, fun {K S S' v o} h q => by
    cases o with
    | none => exact q
    | some a => exact R.mono h q⟩
section
variable {K : PySem.W.Frag} {G : Gm} {Mu Mu1 Mu2 Mu3 : Mm} {te : TE} {α : Type} {R : Rep α} {x : α} {o : Option α}
theorem ev_onone (h : EvV K te G Mu Mu1 vN) : EvV K te G Mu Mu1 (.val (tv (rOpt R) none)) := fun B σ S ls H Q sl hs q =>
  h B σ S ls H Q sl hs fun v S1 l1 H1 a1 b1 c1 d1 => q v S1 l1 H1 a1 b1 c1 d1
theorem ev_osome (h : EvV K te G Mu Mu1 (.val (tv R x))) : EvV K te G Mu Mu1 (.val (tv (rOpt R) (some x))) := fun B σ S ls H Q sl hs q =>
  h B σ S ls H Q sl hs fun v S1 l1 H1 a1 b1 c1 d1 => q v S1 l1 H1 a1 b1 c1 d1
theorem ev_oget (h : EvV K te G Mu Mu1 (.val (tv (rOpt R) o))) (e : getO o = .ok x) : EvV K te G Mu Mu1 (.val (tv R x)) := by
  cases o with
  | none => cases e
  | some a =>
    cases e
    exact fun B σ S ls H Q sl hs q => h B σ S ls H Q sl hs fun v S1 l1 H1 a1 b1 c1 d1 => q v S1 l1 H1 a1 b1 c1 d1
/-- what is never None -/
structure NoN {α : Type} (R : Rep α) : Prop where
  no : ∀ {K S v a}, R.p K S v a → v ≠ .non
theorem non_int : NoN rInt := ⟨fun h => by cases h; exact fun z => nomatch z⟩
theorem non_bool : NoN rBool := ⟨fun h => by cases h; exact fun z => nomatch z⟩
theorem non_txt : NoN rTxt := ⟨fun h => by cases h; exact fun z => nomatch z⟩
theorem non_sq {k : Knd} : NoN (rSq k R) := ⟨fun ⟨p, vs, e, _⟩ => by subst e; exact fun z => nomatch z⟩
theorem non_p2 {β : Type} {R' : Rep β} : NoN (rP2 R R') := ⟨fun ⟨p, vs, e, _⟩ => by subst e; exact fun z => nomatch z⟩
theorem non_p3 {β γ : Type} {R' : Rep β} {R2 : Rep γ} : NoN (rP3 R R' R2) := ⟨fun ⟨p, vs, e, _⟩ => by subst e; exact fun z => nomatch z⟩
theorem non_p4 {β γ δ : Type} {R' : Rep β} {R2 : Rep γ} {R3 : Rep δ} : NoN (rP4 R R' R2 R3) := ⟨fun ⟨p, vs, e, _⟩ => by subst e; exact fun z => nomatch z⟩
theorem dec_opt (n : NoN R) {S : Hp} {v : V} (r : (rOpt R).p K S v o) : decide (v = .non) = o.isNone := by
  cases o with
  | none => exact decide_eq_true r
  | some a => exact decide_eq_false (n.no (show R.p K S v a from r))
theorem rv_isN (n : NoN R) : Rv K rIsN Mu Mu (.val (tv (rOpt R) o)) vN (vB o.isNone) := rv_same fun B S ls H x y Q hs ha hb q => ⟨hb, q _ (congrArg V.bl (dec_opt n ha))⟩
theorem rv_notN (n : NoN R) : Rv K rNotN Mu Mu (.val (tv (rOpt R) o)) vN (vB (!o.isNone)) := rv_same fun B S ls H x y Q hs ha hb q => ⟨hb, q _ (congrArg (fun b => V.bl (!b)) (dec_opt n ha))⟩
theorem rv_isN0 : Rv K rIsN Mu Mu vN vN (vB true) := rv_same fun B S ls H x y Q hs ha hb q => by
  have ha : x = .non := ha
  exact ⟨hb, q _ (congrArg V.bl (decide_eq_true ha))⟩
theorem rv_isNV (n : NoN R) : Rv K rIsN Mu Mu (.val (tv R x)) vN (vB false) := rv_same fun B S ls H u y Q hs ha hb q => ⟨hb, q _ (congrArg V.bl (decide_eq_false (n.no ha)))⟩
theorem rv_notN0 : Rv K rNotN Mu Mu vN vN (vB false) := rv_same fun B S ls H x y Q hs ha hb q => by
  have ha : x = .non := ha
  exact ⟨hb, q _ (congrArg (fun b => V.bl (!b)) (decide_eq_true ha))⟩
theorem rv_notNV (n : NoN R) : Rv K rNotN Mu Mu (.val (tv R x)) vN (vB true) := rv_same fun B S ls H u y Q hs ha hb q => ⟨hb, q _ (congrArg (fun b => V.bl (!b)) (decide_eq_false (n.no ha)))⟩
theorem rv_isBB {a b : Bool} : Rv K rIsB Mu Mu (vB a) (vB b) (vB (decide (a = b))) := rv_same fun B S ls H x y Q hs ha hb q => ⟨a, b, ha, hb, q _ rfl⟩
theorem rv_notBB {a b : Bool} : Rv K rNotB Mu Mu (vB a) (vB b) (vB (!decide (a = b))) := rv_same fun B S ls H x y Q hs ha hb q => ⟨a, b, ha, hb, q _ rfl⟩
end
/-! ### dicts -/
section
variable {κ : Type} [DecidableEq κ]
theorem map_val {f : κ → Key} (hf : ∀ a b, f a = f b → a = b) (k : κ) : ∀ ys : List (κ × V), valV (ys.map fun p => (f p.1, p.2)) (f k) = dget ys k
  | [] => rfl
  | p :: r => by
    rw [List.map_cons]
    by_cases h : p.1 = k
    · rw [valV_pos (by rw [h])]
      unfold dget
      rw [List.find?_cons, decide_eq_true h]
      rfl
    · rw [valV_neg (fun z => h (hf _ _ z)), map_val hf k r]
      unfold dget
      rw [List.find?_cons, decide_eq_false h]
theorem map_valL {f : κ → List Key} (hf : ∀ a b, f a = f b → a = b) (k : κ) : ∀ ys : List (κ × V), valV (ys.map fun p => (f p.1, p.2)) (f k) = dget ys k
  | [] => rfl
  | p :: r => by
    rw [List.map_cons]
    by_cases h : p.1 = k
    · rw [valV_pos (by rw [h])]
      unfold dget
      rw [List.find?_cons, decide_eq_true h]
      rfl
    · rw [valV_neg (fun z => h (hf _ _ z)), map_valL hf k r]
      unfold dget
      rw [List.find?_cons, decide_eq_false h]
theorem map_put {ρ : Type} [DecidableEq ρ] {f : κ → ρ} (hf : ∀ a b, f a = f b → a = b) (k : κ) (v : V) (ys : List (κ × V)) : putK (ys.map fun p => (f p.1, p.2)) (f k) v = (dput ys k v).map fun p => (f p.1, p.2) := by
  have hd : ∀ x : κ, decide (f x = f k) = decide (x = k) := fun x => by
    by_cases h : x = k
    · rw [decide_eq_true h, decide_eq_true (by rw [h])]
    · rw [decide_eq_false h, decide_eq_false fun z => h (hf _ _ z)]
  unfold putK dput
  rw [List.any_map]
  have e : (ys.any ((fun kv : ρ × V => decide (kv.1 = f k)) ∘ fun p => (f p.1, p.2))) = ys.any fun kv => decide (kv.1 = k) := by
    congr 1
    funext p
    exact hd p.1
  rw [e]
  by_cases h : (ys.any fun kv => decide (kv.1 = k)) = true
  · rw [if_pos h, if_pos h, List.map_map, List.map_map]
    refine List.map_congr_left fun p _ => ?_
    show (if f p.1 = f k then (f p.1, v) else (f p.1, p.2)) = _
    by_cases h2 : p.1 = k
    · rw [if_pos (by rw [h2])]
      simp [h2]
    · rw [if_neg (fun z => h2 (hf _ _ z))]
      simp [h2]
  · rw [if_neg h, if_neg h, List.map_append]
    rfl
end
/-- keys: how they are told, and what the dict is -/
structure KyR {κ : Type} [DecidableEq κ] (R : Rep κ) where
  obj : List (κ × V) → HO
  get : ∀ {K : PySem.W.Frag} {S H : Hp} {a : Addr} {v : V} {k : κ} {ys : List (κ × V)}, Same S H → R.p K S v k → H a = some (obj ys) → DGet H a v (dget ys k)
  put : ∀ {K : PySem.W.Frag} {S H : Hp} {a : Addr} {v y : V} {k : κ} {ys : List (κ × V)}, Same S H → R.p K S v k → H a = some (obj ys) → ys.length < sizeLine → DPut H a v y (upd H a (obj (dput ys k y)))
  isD : ∀ {H : Hp} {a : Addr} {ys : List (κ × V)}, H a = some (obj ys) → IsD H a
/-- ints or texts -/
def kyK {κ : Type} [DecidableEq κ] {R : Rep κ} (f : κ → Key) (hf : ∀ a b, f a = f b → a = b) (hR : ∀ {K S v k}, R.p K S v k → v = kV (f k)) : KyR R where
  obj := fun ys => .dK (ys.map fun p => (f p.1, p.2))
  get := fun {K S H a v k ys} _ r e => by
    have := DGet.k (k := f k) e
    rw [map_val hf] at this
    rw [hR r]
    exact this
  put := fun {K S H a v y k ys} _ r e hl => by
    have := DPut.k (k := f k) (v := y) e (by rw [List.length_map]; exact hl)
    rw [map_put hf] at this
    rw [hR r]
    exact this
  isD := fun {H a ys} e => .inl ⟨_, .of e⟩
/-- tuples of such -/
def kyT {κ : Type} [DecidableEq κ] {R : Rep κ} (f : κ → List Key) (hf : ∀ a b, f a = f b → a = b) (hR : ∀ {K S v k}, R.p K S v k → ∃ b, v = .ref b ∧ S b = some (.tup ((f k).map kV))) : KyR R where
  obj := fun ys => .dT (ys.map fun p => (f p.1, p.2))
  get := fun {K S H a v k ys} sa r e => by
    obtain ⟨b, e1, e2⟩ := hR r
    have := DGet.t (k := f k) e (sa _ _ e2)
    rw [map_valL hf] at this
    rw [e1]
    exact this
  put := fun {K S H a v y k ys} sa r e hl => by
    obtain ⟨b, e1, e2⟩ := hR r
    have := DPut.t (k := f k) (v := y) e (sa _ _ e2) (by rw [List.length_map]; exact hl)
    rw [map_put hf] at this
    rw [e1]
    exact this
  isD := fun {H a ys} e => .inr ⟨_, .of e⟩
def kyInt : KyR rInt := kyK (fun i => .inl i) (fun a b e => by cases e; rfl) fun h => h
def kyTxt : KyR rTxt := kyK (fun l => .inr ⟨l.toArray⟩) (fun a b e => str_inj.mp (Sum.inr.inj e)) fun h => h
/-- what stands in a key's tuple -/
structure KyE {κ : Type} (R : Rep κ) where
  f : κ → Key
  inj : ∀ a b, f a = f b → a = b
  p : ∀ {K S v k}, R.p K S v k → v = kV (f k)
def keInt : KyE rInt := ⟨.inl, fun a b e => by cases e; rfl, fun h => h⟩
def keTxt : KyE rTxt := ⟨fun l => .inr ⟨l.toArray⟩, fun a b e => str_inj.mp (Sum.inr.inj e), fun h => h⟩
def ky2 {α β : Type} [DecidableEq α] [DecidableEq β] {A : Rep α} {B : Rep β} (a : KyE A) (b : KyE B) : KyR (rP2 A B) := kyT (fun x => [a.f x.1, b.f x.2])
  (fun x y e => by
    injection e with e1 e2
    injection e2 with e2 _
    exact Prod.ext (a.inj _ _ e1) (b.inj _ _ e2))
  fun {K S v k} ⟨p, vs, e, sq, l, r⟩ => by
    cases r with
    | cons r0 r => cases r with
      | cons r1 r =>
        cases r
        rw [a.p r0, b.p r1] at sq
        exact ⟨p, e, sq⟩
def ky3 {α β γ : Type} [DecidableEq α] [DecidableEq β] [DecidableEq γ] {A : Rep α} {B : Rep β} {C : Rep γ} (a : KyE A) (b : KyE B) (c : KyE C) : KyR (rP3 A B C) := kyT (fun x => [a.f x.1, b.f x.2.1, c.f x.2.2])
  (fun x y e => by
    injection e with e1 e2
    injection e2 with e2 e3
    injection e3 with e3 _
    exact Prod.ext (a.inj _ _ e1) (Prod.ext (b.inj _ _ e2) (c.inj _ _ e3)))
  fun {K S v k} ⟨p, vs, e, sq, l, r⟩ => by
    cases r with
    | cons r0 r => cases r with
      | cons r1 r => cases r with
        | cons r2 r =>
          cases r
          rw [a.p r0, b.p r1, c.p r2] at sq
          exact ⟨p, e, sq⟩
section
variable {κ α : Type} [DecidableEq κ] {Rk : Rep κ} {R : Rep α} {Y : KyR Rk}
abbrev DAll (K : PySem.W.Frag) (S : Hp) (R : Rep α) (ys : List (κ × V)) (xs : List (κ × α)) : Prop := Paired (fun y x => y.1 = x.1 ∧ R.p K S y.2 x.2) ys xs
theorem DAll.mono {K : PySem.W.Frag} {S S' : Hp} {ys : List (κ × V)} {xs : List (κ × α)} (h : Same S S') (q : DAll K S R ys xs) : DAll K S' R ys xs := Paired.imp q fun _ _ z => ⟨z.1, R.mono h z.2⟩
theorem DAll.get {K : PySem.W.Frag} {S : Hp} {k : κ} : ∀ {ys : List (κ × V)} {xs : List (κ × α)}, DAll K S R ys xs → (match dget xs k with
    | none => dget ys k = none
    | some x => ∃ v, dget ys k = some v ∧ R.p K S v x)
  | _, _, .nil => rfl
  | y :: _, x :: _, .cons r t => by
    unfold dget
    rw [List.find?_cons, List.find?_cons]
    by_cases h : x.1 = k
    · rw [decide_eq_true h, decide_eq_true (r.1.trans h)]
      exact ⟨_, rfl, r.2⟩
    · rw [decide_eq_false h, decide_eq_false (fun z => h (r.1.symm.trans z))]
      exact DAll.get t
theorem DAll.any {K : PySem.W.Frag} {S : Hp} {k : κ} : ∀ {ys : List (κ × V)} {xs : List (κ × α)}, DAll K S R ys xs → (ys.any fun kv => decide (kv.1 = k)) = xs.any fun kv => decide (kv.1 = k)
  | _, _, .nil => rfl
  | y :: _, x :: _, .cons r t => by
    rw [List.any_cons, List.any_cons, r.1, DAll.any t]
theorem DAll.repl {K : PySem.W.Frag} {S : Hp} {k : κ} {v : V} {x : α} (rx : R.p K S v x) : ∀ {ys : List (κ × V)} {xs : List (κ × α)}, DAll K S R ys xs → DAll K S R (ys.map fun kv => if kv.1 = k then (kv.1, v) else kv) (xs.map fun kv => if kv.1 = k then (kv.1, x) else kv)
  | _, _, .nil => .nil
  | y :: _, z :: _, .cons r t => by
    rw [List.map_cons, List.map_cons]
    refine .cons ?_ (DAll.repl rx t)
    by_cases h : z.1 = k
    · rw [if_pos h, if_pos (r.1.trans h)]
      exact ⟨r.1, rx⟩
    · rw [if_neg h, if_neg (fun q => h (r.1.symm.trans q))]
      exact r
theorem DAll.put {K : PySem.W.Frag} {S : Hp} {k : κ} {v : V} {x : α} (rx : R.p K S v x) {ys : List (κ × V)} {xs : List (κ × α)} (q : DAll K S R ys xs) : DAll K S R (dput ys k v) (dput xs k x) := by
  unfold dput
  rw [DAll.any q]
  by_cases h : (xs.any fun kv => decide (kv.1 = k)) = true
  · rw [if_pos h, if_pos h]
    exact DAll.repl rx q
  · rw [if_neg h, if_neg h]
    exact Paired.app q (.cons ⟨rfl, rx⟩ .nil)
theorem dput_le {β : Type} (xs : List (κ × β)) (k : κ) (x : β) : (dput xs k x).length ≤ xs.length + 1 := by
  unfold dput
  split
  · rw [List.length_map]
    omega
  · rw [List.length_append]
    exact Nat.le_refl _
/-- an own dict -/
def fD (Y : KyR Rk) (R : Rep α) (xs : List (κ × α)) : FV where
  q := fun K S _ o => ∃ ys, o = Y.obj ys ∧ ys.length ≤ sizeLine ∧ DAll K S R ys xs
  mono := fun h ⟨ys, e, l, r⟩ => ⟨ys, e, l, r.mono h⟩
abbrev mD (Y : KyR Rk) (R : Rep α) (xs : List (κ × α)) : MV := flat (fD Y R xs)
/-- a dict that stands -/
def rD (Y : KyR Rk) (R : Rep α) : Rep (List (κ × α)) := ⟨fun K S v xs => ∃ p ys, v = .ref p ∧ S p = some (Y.obj ys) ∧ ys.length ≤ sizeLine ∧ DAll K S R ys xs,
  fun h ⟨p, ys, e, q, l, r⟩ => ⟨p, ys, e, h _ _ q, l, r.mono h⟩⟩
theorem frz_D {xs : List (κ × α)} : Frz (mD Y R xs) (tv (rD Y R) xs) := fun ⟨ef, o, e1, ys, e, l, r⟩ s1 hf => by
  subst e
  exact ⟨_, ys, rfl, (hf _ ((ef _).mpr rfl)).trans e1, l, r.mono s1⟩
def IsDc (K : PySem.W.Frag) (Mu : Mm) (s : SV) (Y : KyR Rk) (R : Rep α) (xs : List (κ × α)) : Prop :=
  ∀ B S ls H v, HS K B S ls Mu H → s.p K S ls v → ∃ p ys, v = .ref p ∧ H p = some (Y.obj ys) ∧ ys.length ≤ sizeLine ∧ DAll K S R ys xs
variable {K : PySem.W.Frag} {G : Gm} {Mu Mu1 Mu2 Mu3 : Mm} {td ty tx : TE} {s : SV} {xs : List (κ × α)} {k : κ} {x : α} {j : Nat}
theorem is_dv : IsDc K Mu (.val (tv (rD Y R) xs)) Y R xs := fun B S ls H v hs ⟨p, ys, e, q, l, r⟩ => ⟨p, ys, e, hs.ex _ _ q, l, r⟩
theorem is_dc (oc : Option Addr) (h : Mu[j]? = some (some (pin oc (mD Y R xs)))) : IsDc K Mu (.cell j) Y R xs := fun B S ls H v hs ⟨a, e, ev⟩ => by
  obtain ⟨a', o, e1, e2, e3, ⟨ys, eo, l, r⟩⟩ := hs.cell h
  rw [e] at e1
  cases e1
  subst eo
  exact ⟨a, ys, ev, e3, l, r⟩
theorem ev_dget (hd : EvV K td G Mu Mu1 s) (hk : EvV K ty G Mu1 Mu2 (.val (tv Rk k))) (hq : IsDc K Mu2 s Y R xs) (e : getD xs k = .ok x) : EvV K (tDGet td ty) G Mu Mu2 (.val (tv R x)) := fun B σ S ls H Q sl hs q =>
  hd B σ S ls H _ sl hs fun u S1 l1 H1 a1 b1 c1 d1 => hk B σ S1 l1 H1 _ (sl.mono a1 b1) c1 fun v S2 l2 H2 a2 b2 c2 d2 => by
    obtain ⟨p, ys, e1, e2, _, r⟩ := hq B S2 l2 H2 u c2 (SV.mono a2 b2 d1)
    have g := Y.get (k := k) c2.ex d2 e2
    have m := DAll.get (k := k) r
    unfold getD at e
    split at e
    · rename_i y ey
      cases e
      rw [ey] at m
      obtain ⟨v', f1, f2⟩ := m
      rw [f1] at g
      exact ⟨p, v', e1, g, q v' S2 l2 H2 (a1.trans a2) (b1.trans b2) c2 f2⟩
    · cases e
theorem ev_dget1 (hd : EvV K td G Mu Mu1 s) (hk : EvV K ty G Mu1 Mu2 (.val (tv Rk k))) (hq1 : ∃ xs, IsDc K Mu1 s Y R xs) (hq : IsDc K Mu2 s Y R xs) : EvV K (tDGet1 td ty) G Mu Mu2 (.val (tv (rOpt R) (dget xs k))) := fun B σ S ls H Q sl hs q =>
  hd B σ S ls H _ sl hs fun u S1 l1 H1 a1 b1 c1 d1 => by
    obtain ⟨xs1, hq1⟩ := hq1
    obtain ⟨p0, ys0, f1, f2, _, _⟩ := hq1 B S1 l1 H1 u c1 d1
    refine ⟨p0, f1, Y.isD f2, ?_⟩
    refine hk B σ S1 l1 H1 _ (sl.mono a1 b1) c1 fun v S2 l2 H2 a2 b2 c2 d2 => ?_
    obtain ⟨p, ys, e1, e2, _, r⟩ := hq B S2 l2 H2 u c2 (SV.mono a2 b2 d1)
    rw [f1] at e1
    cases e1
    have m := DAll.get (k := k) r
    refine ⟨_, Y.get (k := k) c2.ex d2 e2, ?_⟩
    cases ey : dget xs k with
    | none =>
      rw [ey] at m
      have m : dget ys k = none := m
      rw [m]
      exact q _ S2 l2 H2 (a1.trans a2) (b1.trans b2) c2 (by rw [ey]; rfl)
    | some y =>
      rw [ey] at m
      obtain ⟨v', g1, g2⟩ := m
      rw [g1]
      exact q _ S2 l2 H2 (a1.trans a2) (b1.trans b2) c2 (by rw [ey]; exact g2)
theorem ev_dget2 (hd : EvV K td G Mu Mu1 s) (hk : EvV K ty G Mu1 Mu2 (.val (tv Rk k))) (hx : EvV K tx G Mu2 Mu3 (.val (tv R x))) (hq1 : ∃ xs, IsDc K Mu1 s Y R xs) (hq : IsDc K Mu3 s Y R xs) : EvV K (tDGet2 td ty tx) G Mu Mu3 (.val (tv R ((dget xs k).getD x))) := fun B σ S ls H Q sl hs q =>
  hd B σ S ls H _ sl hs fun u S1 l1 H1 a1 b1 c1 d1 => by
    obtain ⟨xs1, hq1⟩ := hq1
    obtain ⟨p0, ys0, f1, f2, _, _⟩ := hq1 B S1 l1 H1 u c1 d1
    refine ⟨p0, f1, Y.isD f2, ?_⟩
    refine hk B σ S1 l1 H1 _ (sl.mono a1 b1) c1 fun v S2 l2 H2 a2 b2 c2 d2 => ?_
    refine hx B σ S2 l2 H2 _ ((sl.mono a1 b1).mono a2 b2) c2 fun z S3 l3 H3 a3 b3 c3 d3 => ?_
    obtain ⟨p, ys, e1, e2, _, r⟩ := hq B S3 l3 H3 u c3 (SV.mono (a2.trans a3) (b2.trans b3) d1)
    rw [f1] at e1
    cases e1
    have m := DAll.get (k := k) r
    refine ⟨_, Y.get (k := k) c3.ex (Rk.mono a3 d2) e2, ?_⟩
    cases ey : dget xs k with
    | none =>
      rw [ey] at m
      have m : dget ys k = none := m
      rw [m]
      exact q _ S3 l3 H3 ((a1.trans a2).trans a3) ((b1.trans b2).trans b3) c3 (by rw [ey]; exact d3)
    | some y =>
      rw [ey] at m
      obtain ⟨v', g1, g2⟩ := m
      rw [g1]
      exact q _ S3 l3 H3 ((a1.trans a2).trans a3) ((b1.trans b2).trans b3) c3 (by rw [ey]; exact g2)
theorem dall_some {S : Hp} {ys : List (κ × V)} (r : DAll K S R ys xs) : (dget ys k).isSome = (dget xs k).isSome := by
  have m := DAll.get (k := k) r
  cases ey : dget xs k with
  | none =>
    rw [ey] at m
    have m : dget ys k = none := m
    rw [m]
    rfl
  | some y =>
    rw [ey] at m
    obtain ⟨v', g1, g2⟩ := m
    rw [g1]
    rfl
theorem ev_din (hk : EvV K ty G Mu Mu1 (.val (tv Rk k))) (hd : EvV K td G Mu1 Mu2 s) (hq : IsDc K Mu2 s Y R xs) : EvV K (tDIn ty td) G Mu Mu2 (vB (dget xs k).isSome) := fun B σ S ls H Q sl hs q =>
  hk B σ S ls H _ sl hs fun v S1 l1 H1 a1 b1 c1 d1 => hd B σ S1 l1 H1 _ (sl.mono a1 b1) c1 fun u S2 l2 H2 a2 b2 c2 d2 => by
    obtain ⟨p, ys, e1, e2, _, r⟩ := hq B S2 l2 H2 u c2 d2
    exact ⟨p, _, e1, Y.get (k := k) c2.ex (Rk.mono a2 d1) e2, q _ S2 l2 H2 (a1.trans a2) (b1.trans b2) c2 (congrArg V.bl (dall_some r))⟩
theorem ev_dnin (hk : EvV K ty G Mu Mu1 (.val (tv Rk k))) (hd : EvV K td G Mu1 Mu2 s) (hq : IsDc K Mu2 s Y R xs) : EvV K (tDNotIn ty td) G Mu Mu2 (vB (!(dget xs k).isSome)) := fun B σ S ls H Q sl hs q =>
  hk B σ S ls H _ sl hs fun v S1 l1 H1 a1 b1 c1 d1 => hd B σ S1 l1 H1 _ (sl.mono a1 b1) c1 fun u S2 l2 H2 a2 b2 c2 d2 => by
    obtain ⟨p, ys, e1, e2, _, r⟩ := hq B S2 l2 H2 u c2 d2
    exact ⟨p, _, e1, Y.get (k := k) c2.ex (Rk.mono a2 d1) e2, q _ S2 l2 H2 (a1.trans a2) (b1.trans b2) c2 (congrArg (fun b => V.bl (!b)) (dall_some r))⟩
theorem ef_dnewK (h : Y.obj [] = .dK [] := by rfl) : EvF K tDNewK G Mu Mu (mD Y R []) := fun B σ S ls H Q sl hs q p hp => q.new hs hp ⟨[], h.symm, Nat.zero_le _, .nil⟩
theorem ef_dnewT (h : Y.obj [] = .dT [] := by rfl) : EvF K tDNewT G Mu Mu (mD Y R []) := fun B σ S ls H Q sl hs q p hp => q.new hs hp ⟨[], h.symm, Nat.zero_le _, .nil⟩
/-- d[k] = x -/
theorem eb_dput (oc : Option Addr) {ω : Type} {W : Xw} {np : Nat} {κ' : ω → OS} {m : Mr ω} {u : TS} {r0 : Unit} (hx : EvV K tx G Mu Mu1 (.val (tv R x))) (hd : EvV K td G Mu1 Mu2 (.cell j)) (hk : EvV K ty G Mu2 Mu3 (.val (tv Rk k))) (hm : Mu3[j]? = some (some (pin oc (mD Y R xs)))) (hz : growOk xs = .ok r0)
    (r : EvB K W np u G (Mu3.set j (some (pin oc (mD Y R (dput xs k x))))) κ' m) : EvB K W np (tSeq (sDPut td ty tx) u) G Mu κ' m := fun B σ S ls H D w hn sl hs e q =>
  hx B σ S ls H _ sl hs fun y S1 l1 H1 a1 b1 c1 d1 => hd B σ S1 l1 H1 _ (sl.mono a1 b1) c1 fun v S2 l2 H2 a2 b2 c2 d2 => hk B σ S2 l2 H2 _ ((sl.mono a1 b1).mono a2 b2) c2 fun z S3 l3 H3 a3 b3 c3 d3 => by
    obtain ⟨p, ep, ex⟩ := d2
    subst ex
    obtain ⟨p2, o2, g1, _, g3, ⟨ys, go, gz, gr⟩⟩ := c3.cell hm
    rw [b3.get ep] at g1
    cases g1
    subst go
    have hlt : ys.length < sizeLine := by
      rw [Paired.length gr]
      exact growOk_lt hz
    refine ⟨p, _, rfl, Y.put (k := k) (y := y) c3.ex d3 g3 hlt, ?_⟩
    refine r B σ S3 l3 _ D w hn (((sl.mono a1 b1).mono a2 b2).mono a3 b3) (c3.write hm (b3.get ep) ⟨dput ys k y, rfl, ?_, DAll.put (R.mono (a2.trans a3) d1) gr⟩) e (q.mono ((a1.trans a2).trans a3) ((b1.trans b2).trans b3))
    exact Nat.le_trans (dput_le _ _ _) hlt
end
/-! ### len of a dict -/
section
variable {κ α : Type} [DecidableEq κ] {Rk : Rep κ} {R : Rep α} {Y : KyR Rk} {K : PySem.W.Frag} {Mu : Mm} {s : SV} {xs : List (κ × α)}
theorem rc_dlenT (h : IsDc K Mu s Y R xs) (e : ∀ ys, ∃ zs, Y.obj ys = .dT zs ∧ zs.length = ys.length := by exact fun ys => ⟨_, rfl, List.length_map _⟩) : Rc K rLenT Mu Mu [s] (vI (xs.length : Int)) := rc_same fun B S ls H vs Q hs ha q => by
  cases ha with
  | cons r0 r1 =>
    cases r1
    obtain ⟨p, ys, ep, ho, l, r⟩ := h B S ls H _ hs r0
    subst ep
    obtain ⟨zs, e1, e2⟩ := e ys
    rw [e1] at ho
    refine ⟨p, zs, rfl, ho, q _ ?_⟩
    show V.int _ = V.int _
    rw [e2, Paired.length r]
theorem rc_dlenK (h : IsDc K Mu s Y R xs) (e : ∀ ys, ∃ zs, Y.obj ys = .dK zs ∧ zs.length = ys.length := by exact fun ys => ⟨_, rfl, List.length_map _⟩) : Rc K (fun xs H Q => ∃ a kvs, xs = [V.ref a] ∧ H a = some (.dK kvs) ∧ Q (.int kvs.length) H) Mu Mu [s] (vI (xs.length : Int)) := rc_same fun B S ls H vs Q hs ha q => by
  cases ha with
  | cons r0 r1 =>
    cases r1
    obtain ⟨p, ys, ep, ho, l, r⟩ := h B S ls H _ hs r0
    subst ep
    obtain ⟨zs, e1, e2⟩ := e ys
    rw [e1] at ho
    refine ⟨p, zs, rfl, ho, q _ ?_⟩
    show V.int _ = V.int _
    rw [e2, Paired.length r]
end
/-! ### dicts that are records: texts as keys, known ones -/
def fRd (ks : List Key) (ts : List TV) : FV where
  q := fun K S _ o => ∃ ys : List (Key × V), o = .dK ys ∧ ys.length ≤ sizeLine ∧ ys.map (fun p : Key × V => p.1) = ks ∧ AllT K S (ys.map (fun p : Key × V => p.2)) ts
  mono := fun {K S S' a o} h ⟨ys, e, l, f, r⟩ => ⟨ys, e, l, f, AllT.mono (K := K) (S := S) h r⟩
abbrev mRd (ks : List Key) (ts : List TV) : MV := flat (fRd ks ts)
theorem rd_get {k : Key} : ∀ {ys : List (Key × V)} {i : Nat} {v : V}, (ys.map (·.1)).Nodup → (ys.map (·.1))[i]? = some k → (ys.map (·.2))[i]? = some v → valV ys k = some v
  | [], i, v, _, h, _ => by simp at h
  | y :: ys, 0, v, _, h, h2 => by
    have h : y.1 = k := by simpa using h
    have h2 : y.2 = v := by simpa using h2
    rw [valV_pos h, h2]
  | y :: ys, i + 1, v, nd, h, h2 => by
    have h : (ys.map (·.1))[i]? = some k := by simpa using h
    have h2 : (ys.map (·.2))[i]? = some v := by simpa using h2
    rw [List.map_cons, List.nodup_cons] at nd
    have ne : ¬ y.1 = k := fun z => nd.1 (z ▸ List.mem_of_getElem? h)
    rw [valV_neg ne]
    exact rd_get nd.2 h h2
theorem rd_put {k : Key} {v : V} : ∀ {ys : List (Key × V)} {i : Nat}, (ys.map (·.1)).Nodup → (ys.map (·.1))[i]? = some k → (putK ys k v).map (·.1) = ys.map (·.1) ∧ (putK ys k v).map (·.2) = (ys.map (·.2)).set i v := by
  intro ys i nd h
  have hm : ∃ y ∈ ys, y.1 = k := by
    have := List.mem_of_getElem? h
    rw [List.mem_map] at this
    exact this
  have ha : (ys.any fun kv => decide (kv.1 = k)) = true := by
    rw [List.any_eq_true]
    obtain ⟨y, h1, h2⟩ := hm
    exact ⟨y, h1, decide_eq_true h2⟩
  unfold putK
  rw [if_pos ha, List.map_map, List.map_map]
  constructor
  · refine List.map_congr_left fun y _ => ?_
    show (if y.1 = k then (y.1, v) else y).1 = y.1
    split <;> rfl
  · clear hm ha
    induction ys generalizing i with
    | nil => simp at h
    | cons y ys ih =>
      rw [List.map_cons, List.nodup_cons] at nd
      cases i with
      | zero =>
        have h : y.1 = k := by simpa using h
        rw [List.map_cons, List.map_cons, List.set_cons_zero]
        congr 1
        · show (if y.1 = k then (y.1, v) else y).2 = v
          rw [if_pos h]
        · refine List.map_congr_left fun z hz => ?_
          show (if z.1 = k then (z.1, v) else z).2 = z.2
          rw [if_neg fun e => nd.1 (by rw [h, ← e]; exact List.mem_map.mpr ⟨z, hz, rfl⟩)]
      | succ i =>
        have h : (ys.map (·.1))[i]? = some k := by simpa using h
        rw [List.map_cons, List.map_cons, List.set_cons_succ]
        congr 1
        · show (if y.1 = k then (y.1, v) else y).2 = y.2
          rw [if_neg fun e => nd.1 (by rw [e]; exact List.mem_of_getElem? h)]
        · exact ih nd.2 h
section
variable {K : PySem.W.Frag} {G : Gm} {Mu Mu1 Mu2 Mu3 : Mm} {td ty tx : TE} {ks : List Key} {ts : List TV} {t : TV} {z : Str} {i j : Nat}
theorem ev_rget (oc : Option Addr) (hd : EvV K td G Mu Mu1 (.cell j)) (hm : Mu1[j]? = some (some (pin oc (mRd ks ts)))) (nd : ks.Nodup) (hi : ks[i]? = some (.inr z)) (ht : ts[i]? = some t) : EvV K (tDGet td (tC (.str z))) G Mu Mu1 (.val t) := fun B σ S ls H Q sl hs q =>
  hd B σ S ls H _ sl hs fun u S1 l1 H1 a1 b1 c1 d1 => by
    obtain ⟨p, ep, ex⟩ := d1
    subst ex
    obtain ⟨p2, o2, g1, _, g3, ⟨ys, go, gz, gk, gr⟩⟩ := c1.cell hm
    rw [ep] at g1
    cases g1
    subst go
    obtain ⟨v, f1, f2⟩ := Paired.get2 gr ht
    have e := rd_get (k := .inr z) (by rw [gk]; exact nd) (by rw [gk]; exact hi) f1
    have g := DGet.k (k := .inr z) g3
    rw [e] at g
    exact ⟨p, v, rfl, g, q v S1 l1 H1 a1 b1 c1 f2⟩
theorem eb_rput (oc : Option Addr) {ω : Type} {W : Xw} {np : Nat} {κ' : ω → OS} {m : Mr ω} {u : TS} (hx : EvV K tx G Mu Mu1 (.val t)) (hd : EvV K td G Mu1 Mu2 (.cell j)) (hm : Mu2[j]? = some (some (pin oc (mRd ks ts)))) (nd : ks.Nodup) (hi : ks[i]? = some (.inr z)) (hl : Nat.blt ts.length 16777216 = true)
    (r : EvB K W np u G (Mu2.set j (some (pin oc (mRd ks (ts.set i t))))) κ' m) : EvB K W np (tSeq (sDPut td (tC (.str z)) tx) u) G Mu κ' m := fun B σ S ls H D w hn sl hs e q =>
  hx B σ S ls H _ sl hs fun y S1 l1 H1 a1 b1 c1 d1 => hd B σ S1 l1 H1 _ (sl.mono a1 b1) c1 fun v S2 l2 H2 a2 b2 c2 d2 => by
    obtain ⟨p, ep, ex⟩ := d2
    subst ex
    obtain ⟨p2, o2, g1, _, g3, ⟨ys, go, gz, gk, gr⟩⟩ := c2.cell hm
    rw [ep] at g1
    cases g1
    subst go
    have hlt : ys.length < sizeLine := by
      have := Paired.length gr
      rw [List.length_map] at this
      rw [this, sizeLine_eq]
      have := Nat.le_of_ble_eq_true hl
      omega
    obtain ⟨q1, q2⟩ := rd_put (k := .inr z) (v := y) (ys := ys) (i := i) (by rw [gk]; exact nd) (by rw [gk]; exact hi)
    refine ⟨p, _, rfl, DPut.k (k := .inr z) (v := y) g3 hlt, ?_⟩
    refine r B σ S2 l2 _ D w hn ((sl.mono a1 b1).mono a2 b2) (c2.write hm ep ⟨_, rfl, ?_, q1.trans gk, ?_⟩) e (q.mono (a1.trans a2) (b1.trans b2))
    · exact Nat.le_trans (length_putK _ _ _) hlt
    · rw [q2]
      exact Paired.set (F := fun v (t : TV) => t.p K S2 v) (t.mono a2 d1) i gr
/-- {'a': x, ..} -/
def EvP (K : PySem.W.Frag) (trs : List (TE × TE)) (G : Gm) (Mu Mu' : Mm) (zs : List Str) (ts : List TV) : Prop :=
  ∀ B σ S ls H (Q : List (V × V) → Hp → Prop), Sl K S ls σ G → HS K B S ls Mu H → (∀ vs S' ls' H', Same S S' → Pre ls ls' → HS K B S' ls' Mu' H' → AllT K S' vs ts → zs.length = vs.length → Q ((zs.map V.str).zip vs) H') → tPairs trs σ H Q
theorem ep_nil : EvP K [] G Mu Mu [] [] := fun B σ S ls H Q sl hs q => q [] S ls H (Same.refl _) (Pre.refl _) hs .nil rfl
theorem ep_cons {trs : List (TE × TE)} {zs : List Str} (h : EvV K tx G Mu Mu1 (.val t)) (r : EvP K trs G Mu1 Mu2 zs ts) : EvP K ((tC (.str z), tx) :: trs) G Mu Mu2 (z :: zs) (t :: ts) := fun B σ S ls H Q sl hs q =>
  h B σ S ls H _ sl hs fun v S1 l1 H1 a1 b1 c1 d1 => r B σ S1 l1 H1 _ (sl.mono a1 b1) c1 fun vs S2 l2 H2 a2 b2 c2 d2 hl => q (v :: vs) S2 l2 H2 (a1.trans a2) (b1.trans b2) c2 (.cons (t.mono a2 d1) d2) (congrArg (· + 1) hl)
theorem merge_app : ∀ (more kvs : List (Key × V)), ((kvs ++ more).map (fun p : Key × V => p.1)).Nodup → mergeK kvs more = kvs ++ more
  | [], kvs, _ => by simp [mergeK]
  | y :: more, kvs, nd => by
    have e : putK kvs y.1 y.2 = kvs ++ [y] := by
      have hn : valV kvs y.1 = none := by
        cases h : valV kvs y.1 with
        | none => rfl
        | some v =>
          exfalso
          have h1 := valV_any y.1 kvs
          rw [h] at h1
          have h1 : (kvs.any fun kv => decide (kv.1 = y.1)) = true := h1
          rw [List.any_eq_true] at h1
          obtain ⟨x, hx, ex⟩ := h1
          rw [List.map_append, List.nodup_append] at nd
          exact nd.2.2 x.1 (List.mem_map.mpr ⟨x, hx, rfl⟩) y.1 (by simp) (of_decide_eq_true ex)
      exact putK_new y.2 hn
    show mergeK (putK kvs y.1 y.2) more = _
    rw [e, merge_app more (kvs ++ [y]) (by rw [List.append_assoc]; exact nd), List.append_assoc]
    rfl
theorem zip_keys : ∀ (zs : List Str) (vs : List V), zs.length = vs.length → ((zs.map V.str).zip vs = ((zs.map (fun z : Str => (Sum.inr z : Key))).zip vs).map fun kv => (kV kv.1, kv.2)) ∧ ((zs.map (fun z : Str => (Sum.inr z : Key))).zip vs).map (fun p : Key × V => p.1) = zs.map (fun z : Str => (Sum.inr z : Key)) ∧ ((zs.map (fun z : Str => (Sum.inr z : Key))).zip vs).map (fun p : Key × V => p.2) = vs
  | [], [], _ => ⟨rfl, rfl, rfl⟩
  | [], _ :: _, h => nomatch h
  | _ :: _, [], h => nomatch h
  | z :: zs, v :: vs, h => by
    obtain ⟨h1, h2, h3⟩ := zip_keys zs vs (by simpa using h)
    refine ⟨?_, ?_, ?_⟩
    · rw [List.map_cons, List.zip_cons_cons, List.map_cons, List.zip_cons_cons, List.map_cons, h1]
      rfl
    · rw [List.map_cons, List.zip_cons_cons, List.map_cons, h2]
    · rw [List.map_cons, List.zip_cons_cons, List.map_cons, h3]
theorem ef_rdisp {trs : List (TE × TE)} {zs : List Str} (h : EvP K trs G Mu Mu1 zs ts) (ek : ks = zs.map (fun z : Str => (Sum.inr z : Key))) (nd : ks.Nodup) (h15 : Nat.ble zs.length 15 = true) (hm : Mu1.length = Mu.length := by rfl) : EvF K (tDisp trs) G Mu Mu1 (mRd ks ts) := fun B σ S ls H Q sl hs q p hp => by
  have h1 := hs.push (fm := fRd [] []) (o := .dK []) hp ⟨[], rfl, Nat.zero_le _, rfl, .nil⟩
  obtain ⟨C, hf, back⟩ := h1.frame hs.len hs.c0
  refine h ⟨_, S, ls, C⟩ σ S ls _ _ sl hf fun vs S2 l2 H2 a2 b2 c2 d2 hl => ?_
  have el : l2 = ls := by
    obtain ⟨more, e4⟩ := b2
    have h1 := c2.len
    rw [e4, List.length_append, hs.len, hm] at h1
    have : more = [] := List.eq_nil_of_length_eq_zero (by omega)
    rw [e4, this, List.append_nil]
  subst el
  have hb := back S2 Mu1 H2 c2
  have eD : (l2 ++ [p])[Mu1.length]? = some p := by rw [hm, ← hs.len]; simp
  obtain ⟨a', o', f1, _, f3, ⟨ys0, fo, fz, fk, fr⟩⟩ := hb.cell (k := Mu1.length) (c := none) (fm := fRd [] []) (by simp [pin])
  rw [eD] at f1
  cases f1
  subst fo
  obtain rfl : ys0 = [] := List.map_eq_nil_iff.mp fk
  obtain ⟨z1, z2, z3⟩ := zip_keys zs vs hl
  have h15 := Nat.le_of_ble_eq_true h15
  have hlen : ((zs.map (fun z : Str => (Sum.inr z : Key))).zip vs).length ≤ 15 := by
    rw [List.length_zip, List.length_map]
    omega
  refine ⟨f3, _, z1, hlen, ?_⟩
  have hW := hb.write (k := Mu1.length) (c := none) (fm := fRd [] []) (fm' := fRd ks ts) (o' := .dK (mergeK [] ((zs.map (fun z : Str => (Sum.inr z : Key))).zip vs))) (by simp [pin]) eD ⟨(zs.map (fun z : Str => (Sum.inr z : Key))).zip vs, ?_, ?_, by rw [z2, ek], by rw [z3]; exact d2⟩
  · have e3 : (Mu1 ++ [some (mRd [] [])]).set Mu1.length (some (mRd ks ts)) = Mu1 ++ [some (mRd ks ts)] := by simp
    simp only [pin] at hW
    rw [e3] at hW
    exact q _ S2 (l2 ++ [p]) _ a2 ⟨[p], rfl⟩ hW ⟨p, eD, rfl⟩
  · rw [merge_app _ [] (by rw [List.nil_append, z2, ← ek]; exact nd)]
    rfl
  · rw [sizeLine_eq]
    omega
end
/-! ### pop, max, min of lists -/
section
variable {K : PySem.W.Frag} {G : Gm} {Mu Mu1 Mu2 Mu3 : Mm} {to te : TE} {s : SV} {ts : List TV} {t : TV} {j : Nat} {k : Knd} {α : Type} {R : Rep α} {xs ys : List α} {x : α} {i r : Int}
theorem paired_erase {F : V → TV → Prop} : ∀ {a : List V} {b : List TV} (n : Nat), Paired F a b → Paired F (a.eraseIdx n) (b.eraseIdx n)
  | _, _, _, .nil => .nil
  | _, _, 0, .cons _ t => t
  | _, _, n + 1, .cons q t => .cons q (paired_erase n t)
theorem erase_map {f : α → TV} : ∀ (xs : List α) (n : Nat), (xs.map f).eraseIdx n = (xs.eraseIdx n).map f
  | [], _ => rfl
  | _ :: _, 0 => rfl
  | x :: xs, n + 1 => congrArg (f x :: ·) (erase_map xs n)
theorem popI_ok (h : popI xs i = .ok (x, ys)) : ∃ n, ixN xs.length i = some n ∧ xs[n]? = some x ∧ ys = xs.eraseIdx n := by
  unfold popI at h
  split at h
  · rename_i n e
    split at h
    · rename_i y e2
      cases h
      exact ⟨n, e, e2, rfl⟩
    · cases h
  · cases h
/-- o.pop(i) -/
theorem ev_popAt (oc : Option Addr) {ts1 : List TV} (ho : EvV K to G Mu Mu1 (.cell j)) (hk1 : Mu1[j]? = some (some (pin oc (mL ts1)))) (he : EvV K te G Mu1 Mu2 (vI i)) (hk : Mu2[j]? = some (some (pin oc (mL (xs.map (tv R)))))) (h : popI xs i = .ok (x, ys)) :
    EvV K (tBM K "list" rPopAt to (tCons te tNil)) G Mu (Mu2.set j (some (pin oc (mL (ys.map (tv R)))))) (.val (tv R x)) := fun B σ S ls H Q sl hs q =>
  ho B σ S ls H _ sl hs fun x' S1 l1 H1 a1 b1 c1 d1 => by
    obtain ⟨p, ep, ex⟩ := d1
    subst ex
    obtain ⟨p', o, f1, _, f3, ⟨vs, fo, _, _⟩⟩ := c1.cell hk1
    rw [ep] at f1
    cases f1
    subst fo
    refine ⟨.inl ⟨rfl, vs, SqL.of f3⟩, ?_⟩
    refine he B σ S1 l1 H1 _ (sl.mono a1 b1) c1 fun y S2 l2 H2 a2 b2 c2 d2 => ?_
    obtain ⟨p2, o2, g1, _, g3, ⟨vs2, go, gz, gr⟩⟩ := c2.cell hk
    rw [b2.get ep] at g1
    cases g1
    subst go
    obtain ⟨n, e1, e2, e3⟩ := popI_ok h
    subst e3
    have hlen : vs2.length = xs.length := by rw [Paired.length gr, List.length_map]
    obtain ⟨q1, q2, q3, q4⟩ := ixN_seq e1
    obtain ⟨w, w1, w2⟩ := Paired.get2 gr (i := n) (y := tv R x) (by rw [List.getElem?_map, e2]; rfl)
    have hz : vs2.length ≤ 16777216 := by rw [sizeLine_eq] at gz; exact gz
    refine ⟨p, vs2, i, n, w, rfl, congrArg (fun z => [z]) d2, g3, by omega, by omega, by rw [hlen]; exact q1, w1, ?_⟩
    refine q w S2 l2 _ (a1.trans a2) (b1.trans b2) (c2.write hk (b2.get ep) ⟨vs2.eraseIdx n, rfl, Nat.le_trans (List.length_eraseIdx_le ..) gz, ?_⟩) w2
    have := paired_erase n gr
    have em : (xs.map (tv R)).eraseIdx n = (xs.eraseIdx n).map (tv R) := by
      exact erase_map xs n
    rw [← em]
    exact this
theorem all_ints {S : Hp} : ∀ {vs : List V} {ns : List Int}, AllT K S vs (ns.map (tv rInt)) → vs = ns.map V.int
  | [], [], _ => rfl
  | [], _ :: _, h => nomatch h
  | _ :: _, [], h => nomatch h
  | v :: vs, n :: ns, .cons r t => by
    have r : v = .int n := r
    rw [r, all_ints t]
    rfl
theorem foldMax : ∀ (ns : List Int) (a : Int), (ns.foldl (fun a b => if b > a then b else a) a = a ∨ ns.foldl (fun a b => if b > a then b else a) a ∈ ns) ∧ a ≤ ns.foldl (fun a b => if b > a then b else a) a ∧ ∀ y ∈ ns, y ≤ ns.foldl (fun a b => if b > a then b else a) a
  | [], a => ⟨.inl rfl, Int.le_refl _, fun _ h => nomatch h⟩
  | b :: ns, a => by
    obtain ⟨h1, h2, h3⟩ := foldMax ns (if b > a then b else a)
    have hb : b ≤ (if b > a then b else a) := by split <;> omega
    have ha : a ≤ (if b > a then b else a) := by split <;> omega
    refine ⟨?_, Int.le_trans ha h2, fun y hy => ?_⟩
    · rw [List.foldl_cons]
      rcases h1 with h1 | h1
      · rw [h1]
        split
        · exact .inr (List.mem_cons_self ..)
        · exact .inl rfl
      · exact .inr (List.mem_cons_of_mem _ h1)
    · rw [List.foldl_cons]
      rcases List.mem_cons.mp hy with e | hy
      · subst e
        exact Int.le_trans hb h2
      · exact h3 y hy
theorem foldMin : ∀ (ns : List Int) (a : Int), (ns.foldl (fun a b => if b < a then b else a) a = a ∨ ns.foldl (fun a b => if b < a then b else a) a ∈ ns) ∧ ns.foldl (fun a b => if b < a then b else a) a ≤ a ∧ ∀ y ∈ ns, ns.foldl (fun a b => if b < a then b else a) a ≤ y
  | [], a => ⟨.inl rfl, Int.le_refl _, fun _ h => nomatch h⟩
  | b :: ns, a => by
    obtain ⟨h1, h2, h3⟩ := foldMin ns (if b < a then b else a)
    have hb : (if b < a then b else a) ≤ b := by split <;> omega
    have ha : (if b < a then b else a) ≤ a := by split <;> omega
    refine ⟨?_, Int.le_trans h2 ha, fun y hy => ?_⟩
    · rw [List.foldl_cons]
      rcases h1 with h1 | h1
      · rw [h1]
        split
        · exact .inr (List.mem_cons_self ..)
        · exact .inl rfl
      · exact .inr (List.mem_cons_of_mem _ h1)
    · rw [List.foldl_cons]
      rcases List.mem_cons.mp hy with e | hy
      · subst e
        exact Int.le_trans h2 hb
      · exact h3 y hy
theorem rc_maxL {ns : List Int} (h : IsSq K Mu s k (ns.map (tv rInt))) (e : maxL ns = .ok r) (hk : k.isL = true := by rfl) : Rc K (rMax K) Mu Mu [s] (vI r) := rc_same fun B S ls H vs Q hs ha q => by
  cases ha with
  | cons r0 r1 =>
    cases r1
    obtain ⟨p, ws, ep, sq, l, rr⟩ := h B S ls H _ hs r0
    subst ep
    have ew := all_ints rr
    subst ew
    cases ns with
    | nil => cases e
    | cons n ns =>
      obtain ⟨h1, h2, h3⟩ := foldMax ns n
      refine ⟨p, n :: ns, rfl, SqK.seq sq hk, Nat.zero_lt_succ _, fun m hm hy => ?_⟩
      have em : m = ns.foldl (fun a b => if b > a then b else a) n := by
        apply Int.le_antisymm
        · rcases List.mem_cons.mp hm with e | hm
          · rw [e]
            exact h2
          · exact h3 m hm
        · rcases h1 with h1 | h1
          · rw [h1]
            exact hy n (List.mem_cons_self ..)
          · exact hy _ (List.mem_cons_of_mem _ h1)
      unfold maxL at e
      cases e
      exact q _ (congrArg V.int em)
theorem rc_minL {ns : List Int} (h : IsSq K Mu s k (ns.map (tv rInt))) (e : minL ns = .ok r) (hk : k.isL = true := by rfl) : Rc K (rMin K) Mu Mu [s] (vI r) := rc_same fun B S ls H vs Q hs ha q => by
  cases ha with
  | cons r0 r1 =>
    cases r1
    obtain ⟨p, ws, ep, sq, l, rr⟩ := h B S ls H _ hs r0
    subst ep
    have ew := all_ints rr
    subst ew
    cases ns with
    | nil => cases e
    | cons n ns =>
      obtain ⟨h1, h2, h3⟩ := foldMin ns n
      refine ⟨p, n :: ns, rfl, SqK.seq sq hk, Nat.zero_lt_succ _, fun m hm hy => ?_⟩
      have em : m = ns.foldl (fun a b => if b < a then b else a) n := by
        apply Int.le_antisymm
        · rcases h1 with h1 | h1
          · rw [h1]
            exact hy n (List.mem_cons_self ..)
          · exact hy _ (List.mem_cons_of_mem _ h1)
        · rcases List.mem_cons.mp hm with e | hm
          · rw [e]
            exact h2
          · exact h3 m hm
      unfold minL at e
      cases e
      exact q _ (congrArg V.int em)
end
section
variable {X : Cx} {K : PySem.W.Frag}
theorem kMaxL (hc : X.calm = true) (h : X.K = K := by rfl) : CallR X (.builtin "max") (rMax K) := h ▸ cr_max hc
theorem kMinL (hc : X.calm = true) (h : X.K = K := by rfl) : CallR X (.builtin "min") (rMin K) := h ▸ cr_min hc
end
/-! ### constants of the module -/
theorem pe_gcT {X : Cx} {x : Str} {pos : Pos} {v : V} (hg : Gl X x) (h : ∃ u, X.mg x = some u ∧ RelV v u) (hd : (x == ("__debug__" : Str)) = false := by decide) : PE X (.Name x pos) (tC v) := by
  obtain ⟨u, h1, h2⟩ := h
  exact pe_glob hg h1 h2 hd
theorem ev_tupC {K : PySem.W.Frag} {G : Gm} {Mu : Mm} {α : Type} {R : Rep α} {xs : List α} {x : Str} {vs : List He.Dv} (h : He.tupB K x vs = true) (r : ∀ S, AllT K S (vs.map (He.Dv.v K)) (xs.map (tv R))) (hl : Nat.ble vs.length 1000 = true := by rfl) :
    EvV K (tC (.ref (He.ga K x))) G Mu Mu (.val (tv (rSq .c R) xs)) := ev_c fun S ls => ⟨_, _, rfl, He.tupB_ok h S, by
  have hl := Nat.le_of_ble_eq_true hl
  rw [List.length_map, sizeLine_eq]
  omega, r S⟩
/-! ### targets of four -/
theorem eg_tup4 {K : PySem.W.Frag} {G : Gm} {α β γ δ : Type} {A : Rep α} {B' : Rep β} {C : Rep γ} {D' : Rep δ} {i j m n : Nat} {x : α × β × γ × δ} : EvG K (gTup K 4 (gCons (gName i) (gCons (gName j) (gCons (gName m) (gCons (gName n) gNil))))) (.val (tv (rP4 A B' C D') x)) G ((((G.set i (some (.val (tv A x.1)))).set j (some (.val (tv B' x.2.1)))).set m (some (.val (tv C x.2.2.1)))).set n (some (.val (tv D' x.2.2.2)))) := fun B v σ S ls Mu H Q r sl hs q => by
  obtain ⟨p, vs, e, sq, l, rr⟩ := r
  have sq : SqT K S p vs := SqT.of sq
  cases rr with
  | cons r0 rr => cases rr with
    | cons r1 rr => cases rr with
      | cons r2 rr => cases rr with
        | cons r3 rr =>
          cases rr
          exact ⟨p, _, e, same_seqT hs.ex sq, rfl, _, _, rfl, _, _, rfl, _, _, rfl, _, _, rfl, rfl, q _ (Sl.set (s := .val (tv D' x.2.2.2)) (Sl.set (s := .val (tv C x.2.2.1)) (Sl.set (s := .val (tv B' x.2.1)) (Sl.set (s := .val (tv A x.1)) sl r0) r1) r2) r3)⟩
end TL

/-! TL, ninth part: a op b op c, a, b = x, y, one of two kinds, isinstance of such. -/
namespace TL
open PySem L2
section
variable {ω : Type} {W : Xw} {np : Nat} {κ : ω → OS} {m : Mr ω} {u : TS} {K : PySem.W.Frag} {G G' : Gm} {Mu Mu1 Mu2 Mu3 : Mm} {te ta tb tc : TE} {s s1 s2 s3 sa sb sc : SV} {α β γ δ : Type} {A : Rep α} {B' : Rep β} {R : Rep α}
/-! ### chains -/
theorem ev_chainM {r r' : R2} {a c : Bool} {p : Mr Bool} (h1 : EvV K ta G Mu Mu1 sa) (h2 : EvV K tb G Mu1 Mu2 sb) (hr : Rv K r Mu2 Mu2 sa sb (vB a)) (e : (if a = true then p else .ok false) = .ok c) (h3 : a = true → p = .ok c → EvV K tc G Mu2 Mu2 sc ∧ Rv K r' Mu2 Mu2 sb sc (vB c)) :
    EvV K (tChain r r' ta tb tc) G Mu Mu2 (vB c) := fun B σ S ls H Q sl hs q =>
  h1 B σ S ls H _ sl hs fun x S1 l1 H1 a1 b1 c1 d1 => h2 B σ S1 l1 H1 _ (sl.mono a1 b1) c1 fun y S2 l2 H2 a2 b2 c2 d2 =>
    hr B S2 l2 H2 x y _ c2 (SV.mono a2 b2 d1) d2 fun z S3 l3 H3 a3 b3 c3 d3 => by
      refine ⟨a, d3, ?_⟩
      have t1 := (a1.trans a2).trans a3
      have t2 := (b1.trans b2).trans b3
      cases a with
      | false =>
        rw [if_neg Bool.false_ne_true] at e ⊢
        cases e
        exact q _ S3 l3 H3 t1 t2 c3 rfl
      | true =>
        rw [if_pos rfl] at e ⊢
        obtain ⟨g1, g2⟩ := h3 rfl e
        exact g1 B σ S3 l3 H3 _ (((sl.mono a1 b1).mono a2 b2).mono a3 b3) c3 fun w' S4 l4 H4 a4 b4 c4 d4 => g2 B S4 l4 H4 y w' Q c4 (SV.mono (a3.trans a4) (b3.trans b4) d2) d4 (q.mono (t1.trans a4) (t2.trans b4))
theorem ev_chain0 {r r' : R2} {a b : Bool} (h1 : EvV K ta G Mu Mu1 sa) (h2 : EvV K tb G Mu1 Mu2 sb) (hr : Rv K r Mu2 Mu2 sa sb (vB a)) (h3 : EvV K tc G Mu2 Mu2 sc) (hr' : Rv K r' Mu2 Mu2 sb sc (vB b)) : EvV K (tChain r r' ta tb tc) G Mu Mu2 (vB (a && b)) :=
  ev_chainM (p := .ok b) h1 h2 hr (by cases a <;> rfl) fun e _ => by
    subst e
    exact ⟨h3, hr'⟩
theorem oeC {a b : Bool} {P : Bool → Prop} (e : (Except.ok a : Mr Bool) = .ok b) (h : P a) : P b := by
  cases e
  exact h
/-! ### a, b = x, y -/
theorem eb_par {i j : Nat} {t : TA} (h : EvA K t G Mu Mu1 [s1, s2]) (r : EvB K W np u ((G.set i (some s1)).set j (some s2)) Mu1 κ m) : EvB K W np (tSeq (tPar i j t) u) G Mu κ m := fun B σ S ls H D w hn sl hs e q =>
  h B σ S ls H _ sl hs fun vs S1 l1 H1 a1 b1 c1 d1 => by
    cases d1 with
    | cons r0 d1 => cases d1 with
      | cons r1 d1 =>
        cases d1
        exact ⟨_, _, rfl, r B _ S1 l1 H1 D w hn (((sl.mono a1 b1).set r0).set r1) c1 e (q.mono a1 b1)⟩
theorem eb_par3 {i j l : Nat} {t : TA} (h : EvA K t G Mu Mu1 [s1, s2, s3]) (r : EvB K W np u (((G.set i (some s1)).set j (some s2)).set l (some s3)) Mu1 κ m) : EvB K W np (tSeq (tPar3 i j l t) u) G Mu κ m := fun B σ S ls H D w hn sl hs e q =>
  h B σ S ls H _ sl hs fun vs S1 l1 H1 a1 b1 c1 d1 => by
    cases d1 with
    | cons r0 d1 => cases d1 with
      | cons r1 d1 => cases d1 with
        | cons r2 d1 =>
          cases d1
          exact ⟨_, _, _, rfl, r B _ S1 l1 H1 D w hn ((((sl.mono a1 b1).set r0).set r1).set r2) c1 e (q.mono a1 b1)⟩
/-! ### one of two kinds -/
def rSum {α β : Type} (A : Rep α) (B : Rep β) : Rep (α ⊕ β) := ⟨fun K S v x => match x with
  | .inl a => A.p K S v a
  | .inr b => B.p K S v b, fun {K S S' v x} h q => by
    cases x with
    | inl a => exact A.mono h q
    | inr b => exact B.mono h q⟩
theorem ev_inl {x : α} (h : EvV K te G Mu Mu1 (.val (tv A x))) : EvV K te G Mu Mu1 (.val (tv (rSum A B') (.inl x))) := fun B σ S ls H Q sl hs q =>
  h B σ S ls H Q sl hs fun v S1 l1 H1 a1 b1 c1 d1 => q v S1 l1 H1 a1 b1 c1 d1
theorem ev_inr {x : β} (h : EvV K te G Mu Mu1 (.val (tv B' x))) : EvV K te G Mu Mu1 (.val (tv (rSum A B') (.inr x))) := fun B σ S ls H Q sl hs q =>
  h B σ S ls H Q sl hs fun v S1 l1 H1 a1 b1 c1 d1 => q v S1 l1 H1 a1 b1 c1 d1
/-- a block by the kinds of x -/
theorem eb_sum {t : TS} {G : α ⊕ β → Gm} {M : α ⊕ β → Mm} {k : α ⊕ β → ω → OS} {m : α ⊕ β → Mr ω} (x : α ⊕ β) (h1 : ∀ a, EvB K W np t (G (.inl a)) (M (.inl a)) (k (.inl a)) (m (.inl a))) (h2 : ∀ b, EvB K W np t (G (.inr b)) (M (.inr b)) (k (.inr b)) (m (.inr b))) : EvB K W np t (G x) (M x) (k x) (m x) := by
  cases x with
  | inl a => exact h1 a
  | inr b => exact h2 b
/-! ### isinstance -/
theorem ty_sqT : TyR (rSq .t R) "tuple" := fun ⟨p, vs, e, q, _, _⟩ h => by
  subst e
  exact .base (.tup (h _ _ q))
theorem ty_sqL : TyR (rSq .l R) "list" := fun ⟨p, vs, e, q, _, _⟩ h => by
  subst e
  exact .base (.lst (h _ _ q))
theorem ty_p2 : TyR (rP2 A B') "tuple" := fun ⟨p, vs, e, q, _, _⟩ h => by
  subst e
  exact .base (.tup (h _ _ q))
theorem ty_p3 {C : Rep γ} : TyR (rP3 A B' C) "tuple" := fun ⟨p, vs, e, q, _, _⟩ h => by
  subst e
  exact .base (.tup (h _ _ q))
theorem ty_p4 {C : Rep γ} {D : Rep δ} : TyR (rP4 A B' C D) "tuple" := fun ⟨p, vs, e, q, _, _⟩ h => by
  subst e
  exact .base (.tup (h _ _ q))
theorem rc_isiO {n n2 : String} {o : Option α} {c d : Bool} (hn : TyR R n) (hb : kitB n n2 = some c) (hd : kitB "NoneType" n2 = some d) : Rc K (rIsi K) Mu Mu [.val (tv (rOpt R) o), .val (rTy n2)] (vB (if o.isSome = true then c else d)) := by
  cases o with
  | none => exact rc_isi (R := rNone) (x := ()) ty_none hd
  | some a => exact rc_isi (R := R) (x := a) hn hb
end
end TL

/-! TL, tenth part: gcd, lcm, defs with a star parameter. -/
namespace TL
open PySem PySem.Spec PyProof.Rows L2
/-! ### gcd, lcm -/
def rLcm : List V → Hp → VK → Prop := fun vs H Q => ∃ a b : Int, vs = [.int a, .int b] ∧ bitsQ a ≤ 13000 ∧ bitsQ b ≤ 13000 ∧ Q (.int ((a.natAbs.lcm b.natAbs : Nat) : Int)) H
theorem bitsQ_log {a : Int} {k : Nat} (h : bitsQ a ≤ k + 1) : a.natAbs.log2 ≤ k := by
  unfold bitsQ at h
  split at h
  · rename_i e
    rw [e]
    exact Nat.zero_le _
  · omega
theorem lt_of_log {n k : Nat} (h : n.log2 ≤ k) : n < 2 ^ (k + 1) := by
  by_cases h0 : n = 0
  · subst h0
    exact Nat.two_pow_pos _
  · exact (Nat.log2_lt h0).mp (by omega)
theorem log_of_lt {n k : Nat} (h : n < 2 ^ (k + 1)) : n.log2 ≤ k := by
  by_cases h0 : n = 0
  · subst h0
    exact Nat.zero_le _
  · have := (Nat.log2_lt h0).mpr h
    omega
theorem cr_lcm {X : Cx} : CallR X (.builtin "math.lcm") rLcm := by
  intro pins s σ H vs us Q I r h
  obtain ⟨a, b, rfl, ha, hb, q⟩ := h
  obtain ⟨t, u, rfl⟩ := Vals.int2 r
  have la : a.natAbs.log2 ≤ 12999 := bitsQ_log ha
  have lb : b.natAbs.log2 ≤ 12999 := bitsQ_log hb
  have la' := lt_of_log la
  have lb' := lt_of_log lb
  have one : (Nat.lcm 1 a.natAbs) = a.natAbs := Nat.lcm_one_left _
  have h1 : (max 1 a.natAbs).log2 ≤ 12999 := log_of_lt (Nat.max_lt.mpr ⟨Nat.one_lt_two_pow (by decide), la'⟩)
  have h2 : (max a.natAbs b.natAbs).log2 ≤ 12999 := log_of_lt (Nat.max_lt.mpr ⟨la', lb'⟩)
  have hl : (a.natAbs.lcm b.natAbs) < 2 ^ (25999 + 1) := by
    have z : a.natAbs.lcm b.natAbs ≤ a.natAbs * b.natAbs := Nat.div_le_self _ _
    have z2 : a.natAbs * b.natAbs < 2 ^ 13000 * 2 ^ 13000 := by
      by_cases hb0 : b.natAbs = 0
      · rw [hb0, Nat.mul_zero]
        exact Nat.mul_pos (Nat.two_pow_pos _) (Nat.two_pow_pos _)
      · exact Nat.lt_of_lt_of_le ((Nat.mul_lt_mul_right (Nat.pos_of_ne_zero hb0)).mpr la') (Nat.mul_le_mul_left _ (Nat.le_of_lt lb'))
    rw [← Nat.pow_add] at z2
    exact Nat.lt_of_le_of_lt z z2
  have hsz : ((((Nat.lcm 1 a.natAbs).lcm b.natAbs : Nat) : Int)).natAbs.log2 < bitsLine := by
    rw [one, Int.natAbs_natCast]
    exact Nat.lt_of_le_of_lt (log_of_lt hl) (by decide)
  have run := PySem.W.mg_run_lcm a t b u (by omega) (by omega) hsz
  rw [one] at run
  exact call_function_meets PySem.W.MGF.kind_lcm PySem.W.MGF.plain_lcm PySem.W.MGF.entry_lcm (PySem.W.MGF.args_lcm _ _) run.meets ⟨.int _, H, I.tok _, ⟨_, rfl⟩, q⟩
section
variable {K : PySem.W.Frag} {Mu : Mm} {a b r : Int}
theorem rc_gcd : Rc K rGcd Mu Mu [vI a, vI b] (vI (gcdI a b)) := rc_same fun B S ls H vs Q hs ha q => by
  cases ha with
  | cons r0 r1 => cases r1 with
    | cons r1 r2 =>
      cases r2
      have e0 : _ = V.int a := r0
      have e1 : _ = V.int b := r1
      subst e0 e1
      exact ⟨a, b, rfl, q _ rfl⟩
theorem rc_lcm (h : lcmP a b = .ok r) : Rc K rLcm Mu Mu [vI a, vI b] (vI r) := rc_same fun B S ls H vs Q hs ha q => by
  cases ha with
  | cons r0 r1 => cases r1 with
    | cons r1 r2 =>
      cases r2
      have e0 : _ = V.int a := r0
      have e1 : _ = V.int b := r1
      subst e0 e1
      unfold lcmP at h
      split at h
      · rename_i hc
        cases h
        exact ⟨a, b, rfl, hc.1, hc.2, q _ rfl⟩
      · cases h
end
/-! ### defs with a star parameter -/
section
variable {X : Cx} {CX : CXT} {k : Nat} {f : Addr} {sp : Sp} {E : XK} {x : Str} {p pos : Pos} {e : Expr} {es : List Expr} {t : TA}
/-- x(e, ..), x known by its run alone -/
theorem pe_callR (F : FnR X.prog X.w X.K X.mg X.base CX k f sp) (hr : Room k X.A) (hk : PySem.W.keepIn X.K (.ref f) = true) (hg : Gl X x) (hm : X.mg x = some (.ref f)) (hx : Passes CX X E) (ha : PA X (e :: es) t) (hd : (x == ("__debug__" : Str)) = false := by decide)
    (he : starEach (e :: es) X.env = (false, eval e X.env) :: starEach es X.env := by rfl) (hpl : (backTo pos (starEach es X.env)).any (·.1) = false := by rfl) :
    PE X (.Call (.Name x p) (e :: es) [] pos) (fun σ H Q => t σ H fun vs H1 => sp vs H1 Q E) := by
  refine ⟨fun pins s σ H Q I h => ?_⟩
  refine wpAny_Call_Name_kw (ld_glob I hg hm ?_ hd)
  refine PySem.W.callWith_K (h₀ := X.base) I.ok.mod.kin hk (thn (ha.run pos pins s σ H _ I h) fun us s1 ⟨vs, H1, I1, r, q⟩ => ⟨I1.kIn, ?_⟩) he hpl
  exact wpAny_call (run_fnR F hr hx I1 r q)
theorem pe_callR0 (F : FnR X.prog X.w X.K X.mg X.base CX k f sp) (hr : Room k X.A) (hk : PySem.W.keepIn X.K (.ref f) = true) (hg : Gl X x) (hm : X.mg x = some (.ref f)) (hx : Passes CX X E) (hd : (x == ("__debug__" : Str)) = false := by decide) :
    PE X (.Call (.Name x p) [] [] pos) (fun σ H Q => tNil σ H fun vs H1 => sp vs H1 Q E) := by
  refine ⟨fun pins s σ H Q I h => ?_⟩
  refine wpAny_Call_Name_kw (ld_glob I hg hm ?_ hd)
  exact PySem.W.callWith_K0 I.kIn hk (wpAny_call (run_fnR (us := []) F hr hx I .nil h))
end
def starSp (n : Nat) (sp : Sp) : Sp := fun vs H Q E => ∃ ws rest, vs = ws ++ rest ∧ ws.length = n ∧ rest.length ≤ sizeLine ∧ ∀ p, H p = none → sp (ws ++ [V.ref p]) (upd H p (.tup rest)) Q E
theorem okC_vals (ks : List Nat) : ∀ ts : List TV, okC ks (ts.map .val) = true
  | [] => rfl
  | t :: ts => okC_vals ks ts
theorem ren_vals (ks : List Nat) : ∀ ts : List TV, (ts.map SV.val).map (renC ks) = ts.map .val
  | [] => rfl
  | t :: ts => congrArg (_ :: ·) (ren_vals ks ts)
/-- a call's values and cells (the cells ahead), the last ones gathered in a new tuple -/
theorem star_call {ι ω α : Type} {K : PySem.W.Frag} {T : List XcD} {Mu : Mm} {F : FS ι ω} {x : ι} {w : ω} {E : XK} {R : Rep α} {xs : List α} {ss0 : List SV} {n : Nat} {ks : List Nat} {B : Bs} {S H : Hp} {ls : List Addr} {Q : VK} {vs : List V} (c1 : HS K B S ls Mu H) (d1 : AllS K S ls vs (ss0 ++ (xs.map (tv R)).map .val))
    (hk : okKs ks Mu.length = true) (hc : okC ks ss0 = true) (hi : F.ins x = ss0.map (renC ks) ++ [.val (tv (rSq .t R) xs)]) (hC : selN none Mu ks = F.cells x) (hn : ss0.length = n) (hz : xs.length ≤ sizeLine) (hm : F.m x = .ok w)
    (acc : ∀ S H C, Same S0 S → HS K B S ls Mu H → (∀ S2 l2 M2 Mx H2, HS K ⟨H, S, selN 0 ls ks, C⟩ S2 l2 (M2 ++ Mx) H2 → M2.length = ks.length → HS K B S2 (ls ++ l2.drop ks.length) (putAll Mu ks M2 ++ Mx) H2) → Acc K ⟨T, fun cls d _ H' => E cls d H'⟩ ⟨H, S, selN 0 ls ks, C⟩ S (selN 0 ls ks) { nx := fun _ H' => Q .non H', rt := Q } (F.out x w)) (e0 : S0 = S) :
    starSp n (spT K T F) vs H Q E := by
  subst e0
  obtain ⟨ws, rest, e, r0, r1⟩ : ∃ ws rest, vs = ws ++ rest ∧ AllS K S0 ls ws ss0 ∧ AllT K S0 rest (xs.map (tv R)) := by
    refine ⟨vs.take ss0.length, vs.drop ss0.length, (List.take_append_drop _ _).symm, ?_, ?_⟩
    · have := Paired.take ss0.length d1
      rwa [List.take_left] at this
    · have := Paired.drop ss0.length d1
      rw [List.drop_left] at this
      exact allS_vals this
  have hl : rest.length ≤ sizeLine := by
    rw [Paired.length r1, List.length_map]
    exact hz
  refine ⟨ws, rest, e, by rw [Paired.length r0]; exact hn, hl, fun p hp => ?_⟩
  obtain ⟨s2, h2⟩ := c1.laid (o := .tup rest) hp
  refine sp_call (ss := ss0 ++ [.val (tv (rSq .t R) xs)]) (ks := ks) (ps := []) h2 (Paired.app (AllS.mono s2 (Pre.refl _) r0) (.cons (show SV.p K _ ls (V.ref p) (.val (tv (rSq .t R) xs)) from ⟨p, rest, rfl, upd_same, hl, r1.mono s2⟩) .nil)) hk ?_ (by rw [hi, List.map_append]; rfl) (by unfold pinL; exact hC) (by unfold okP; rfl) hm fun C back => acc _ _ C s2 h2 fun S2 l2 M2 Mx H2 g hl => by have := back S2 l2 M2 Mx H2 g hl; unfold pinL at this; exact this
  clear hi d1 r0 hn
  induction ss0 with
  | nil => rfl
  | cons s ss ih =>
    cases s with
    | val t => exact ih (show okC ks ss = true from hc)
    | cell j =>
      have o1 := Bool.and_eq_true_iff.mp (show ((posN ks j).isSome && okC ks ss) = true from hc)
      show ((posN ks j).isSome && okC ks (ss ++ [.val (tv (rSq .t R) xs)])) = true
      rw [o1.1, ih o1.2]
      rfl
section
variable {ι ω α : Type} {K : PySem.W.Frag} {T : List XcD} {W : Xw} {G : Gm} {Mu Mu1 : Mm} {ta : TA} {F : FS ι ω} {x : ι} {w : ω} {E : XK} {Es : L2.St → XK} {ss ss0 : List SV} {R : Rep α} {xs : List α} {n : Nat} {ks : List Nat} {te : TE} {s : SV} {kd : Knd} {t : TV} {m : MV} {Mp : Mm} {y : Xc} {g0 : Option Gm}
theorem ev_callStar (ha : EvA K ta G Mu Mu1 ss) (es : ss = ss0 ++ (xs.map (tv R)).map .val) (hz : xs.length ≤ sizeLine) (hm : F.m x = .ok w) (hk : okKs ks Mu1.length = true := by rfl) (hc : okC ks ss0 = true := by rfl) (hi : F.ins x = ss0.map (renC ks) ++ [.val (tv (rSq .t R) xs)] := by rfl) (hC : selN none Mu1 ks = F.cells x := by rfl) (hn : ss0.length = n := by rfl) (ho : F.out x w = .rt t Mp := by rfl) (hp : Mp.length = ks.length := by rfl) :
    EvV K (fun σ H Q => ta σ H fun vs H1 => starSp n (spT K T F) vs H1 Q E) G Mu (putAll Mu1 ks Mp) (.val t) := fun B σ S ls H Q sl hs q =>
  ha B σ S ls H _ sl hs fun vs S1 l1 H1 a1 b1 c1 d1 => by
    subst es
    refine star_call (S0 := S1) c1 d1 hk hc hi hC hn hz hm (fun S2 H2 C s2 h2 back => ?_) rfl
    rw [ho]
    exact acc_rt (ps := []) h2 hp (fun S2 l2 M2 Mx H2 g hl => by unfold pinL; exact back S2 l2 M2 Mx H2 g hl) (by unfold pinL; exact q.mono (a1.trans s2) b1)
/-- x(*y) -/
theorem ev_callStar1 (ha : EvV K te G Mu Mu1 s) (hs0 : IsSq K Mu1 s kd (xs.map (tv R))) (hi : F.ins x = [.val (tv (rSq .t R) xs)]) (hm : F.m x = .ok w) (hC : F.cells x = [] := by rfl) (ho : F.out x w = .rt t [] := by rfl) :
    EvV K (fun σ H Q => te σ H fun y H1 => ∃ a xs, y = V.ref a ∧ (SqT K H1 a xs ∨ SqL K H1 a xs) ∧ starSp 0 (spT K T F) xs H1 Q E) G Mu Mu1 (.val t) := fun B σ S ls H Q sl hs q =>
  ha B σ S ls H _ sl hs fun y S1 l1 H1 a1 b1 c1 d1 => by
    obtain ⟨p, vs, e, sq, l, r⟩ := hs0 B S1 l1 H1 y c1 d1
    refine ⟨p, vs, e, (SqK.both sq).symm, ?_⟩
    refine star_call (S0 := S1) (ss0 := []) (ks := []) c1 (allT_vals r) rfl rfl hi hC.symm rfl (by have := Paired.length r; rw [List.length_map] at this; rw [← this]; exact l) hm (fun S2 H2 C s2 h2 back => ?_) rfl
    rw [ho]
    exact acc_rt (ps := []) h2 rfl (fun S2 l2 M2 Mx H2 g hl => by unfold pinL; exact back S2 l2 M2 Mx H2 g hl) (by unfold pinL; exact q.mono (a1.trans s2) b1)
end
/-- the def x with a star parameter -/
def OkS (P : Program) (w : World) (K : PySem.W.Frag) (mg : Str → Option Value) (base : Heap) (x : Str) (k n : Nat) (sp : Sp) : Prop :=
  FnR P w K mg base CX0 k (He.ga K x) (starSp n sp) ∧ PySem.W.keepIn K (.ref (He.ga K x)) = true ∧ mg x = some (.ref (He.ga K x))
end TL

/-! TL, eleventh part: enumerate of a tuple. -/
namespace TL
open PySem PySem.Spec PyProof.Rows L2
section
variable {prog : Program} {w : World} {A : Around} {E : Value → Shared → Prop} {s : Shared} {ia tp : Addr} {i : Nat} {zs : Array Value}
/-- what a tuple's iterator does up to the look at its items -/
theorem nt_head {Q : Value → Shared → Prop} (hi : s.heap.IsTupleIter ia tp i)
    (h : ∀ o, s.heap.get? ia = some o → o.cls = .type "tuple_iterator" → o.data = .fields #[.ref tp, .int i 0] → wpAny (model prog w) A.in1 (Builtin.«tuple_iterator.__next__» ⟨[.ref ia], []⟩) (fun r s' => ∃ v, r = .done (.ret v) ∧ Q v s') E s) :
    wpAny (model prog w) A (Builtin.SmallTypes.nextOf (.ref ia)) Q E s := by
  obtain ⟨o, e1, e2, e3⟩ := id hi
  unfold Builtin.SmallTypes.nextOf
  exact wpAny_bind (wpAny_callSpecial?_slot (name := Str.ofString "__next__") hi.typeIs F.slot_tuple_iterator_next (wpAny_call_entry F.slot_tuple_iterator_next hi.typeIs F.entry_tuple_iterator_next
    (wpAny_mono (h o e1 e2 e3) (fun r s' ⟨v, ev, q⟩ => ⟨v, ev, wpAny_pure q⟩) fun _ _ z => z) (F.args_tuple_iterator_next_1 _)))
theorem nt_item {x : Value} {Q : Value → Shared → Prop} (hi : s.heap.IsTupleIter ia tp i) (hT : s.heap.IsTuple tp zs) (ex : zs[i]? = some x)
    (q : ∀ h', h'.IsTupleIter ia tp (i + 1) → Heap.SameBut ia s.heap h' → Q x { s with heap := h' }) : wpAny (model prog w) A (Builtin.SmallTypes.nextOf (.ref ia)) Q E s := by
  refine nt_head hi fun o eo ec ed => ?_
  obtain ⟨ot, et, _, nt, edt⟩ := hT
  show wpAny _ _ (field (.ref ia) 0 >>= _) _ _ s
  refine wpAny_bind (wpAny_field eo ed (x := .ref tp) rfl ?_)
  show wpAny _ _ (if (Value.ref tp == Value.none) = true then _ else _) _ _ s
  rw [if_neg (show ¬ ((Value.ref tp == Value.none) = true) from Bool.false_ne_true)]
  show wpAny _ _ (field (.ref ia) 1 >>= _) _ _ s
  refine wpAny_bind (wpAny_field eo ed (x := .int i 0) rfl ?_)
  show wpAny _ _ (seqItems? (.ref tp) >>= _) _ _ s
  refine wpAny_bind (wpAny_seqItems et edt ?_)
  simp only [Int.toNat_natCast, ex]
  refine wpAny_bind (wpAny_setField eo ed (by simp) (wpAny_pure ⟨x, rfl, q _ ?_ (Heap.SameBut.update ..)⟩))
  exact ⟨_, Heap.get?_update_self _ eo (Obj.isFreed_of_fields (Obj.data_mapFields ed _)), (Obj.cls_mapFields ..).trans ec, by rw [Obj.data_mapFields ed]; simp [rawInt]⟩
theorem nt_end {Q : Value → Shared → Prop} (hh : A.handled = none) (hi : s.heap.IsTupleIter ia tp i) (hT : s.heap.IsTuple tp zs) (ex : zs[i]? = none)
    (q : ∀ h' e, Heap.ExtBut ia s.heap h' → (∃ o, h'.get? e = some o ∧ o.cls = .type "StopIteration") → E (.ref e) { s with heap := h' }) : wpAny (model prog w) A (Builtin.SmallTypes.nextOf (.ref ia)) Q E s := by
  refine nt_head hi fun o eo ec ed => ?_
  obtain ⟨ot, et, _, nt, edt⟩ := hT
  show wpAny _ _ (field (.ref ia) 0 >>= _) _ _ s
  refine wpAny_bind (wpAny_field eo ed (x := .ref tp) rfl ?_)
  show wpAny _ _ (if (Value.ref tp == Value.none) = true then _ else _) _ _ s
  rw [if_neg (show ¬ ((Value.ref tp == Value.none) = true) from Bool.false_ne_true)]
  show wpAny _ _ (field (.ref ia) 1 >>= _) _ _ s
  refine wpAny_bind (wpAny_field eo ed (x := .int i 0) rfl ?_)
  show wpAny _ _ (seqItems? (.ref tp) >>= _) _ _ s
  refine wpAny_bind (wpAny_seqItems et edt ?_)
  simp only [Int.toNat_natCast, ex]
  refine wpAny_bind (wpAny_rule (wpAny_bind (wpAny_setField eo ed (by simp) ?_)))
  refine wpAny_bind (m := newExc (.type "StopIteration") []) ?_
  simp only [newExc, newTuple]
  refine (wpAny_bind (wpAny_newObj_type ?_ (by size_fits)))
  refine wpAny_bind (m := firstArgMember _ _) (wpAny_of_eq (a := Value.none) rfl ?_)
  refine (wpAny_newObj_type ?_ (by size_fits))
  simp only [raiseNew]
  refine (wpAny_bind (wpAny_handled ?_))
  rw [show A.in1.handled = none from hh]
  refine wpAny_bind (wpAny_pure (wpAny_throw (q _ _ (((Heap.SameBut.update ..).extBut.push _).push _) ⟨_, Heap.get?_push_size _ rfl, rfl⟩)))
theorem draws_tup (hh : A.handled = none) (hne : tp ≠ ia) : Draws prog w A ia [ia, tp] zs.size (fun i v => zs[i]? = some v) (fun i h => h.IsTupleIter ia tp i ∧ h.IsTuple tp zs) where
  live := fun _ _ st => by
    obtain ⟨⟨o, e, _⟩, _⟩ := st
    exact ⟨o, e⟩
  frame := fun _ _ _ st hk => by
    obtain ⟨⟨o, e, r⟩, ⟨o2, e2, r2⟩⟩ := st
    exact ⟨⟨o, hk ia (by simp) o e, r⟩, ⟨o2, hk tp (by simp) o2 e2, r2⟩⟩
  item := fun i s Q E hl st q => nt_item st.1 st.2 (x := zs[i]) (by simp [hl]) fun h' a b => q _ h' s.toks (by simp [hl]) ⟨a, st.2.extBut b.extBut hne⟩ b
  done := fun s Q E st q => nt_end hh st.1 st.2 (by simp) q
theorem draws_end {n : Nat} (hh : A.handled = none) (ex : zs[n]? = none) : Draws prog w A ia [ia, tp] n (fun _ _ => True) (fun j h => j = n ∧ h.IsTupleIter ia tp n ∧ h.IsTuple tp zs) where
  live := fun _ _ st => by
    obtain ⟨_, ⟨o, e, _⟩, _⟩ := st
    exact ⟨o, e⟩
  frame := fun _ _ _ st hk => by
    obtain ⟨e0, ⟨o, e, r⟩, ⟨o2, e2, r2⟩⟩ := st
    exact ⟨e0, ⟨o, hk ia (by simp) o e, r⟩, ⟨o2, hk tp (by simp) o2 e2, r2⟩⟩
  item := fun j s Q E hl st q => absurd hl (by rw [st.1]; exact Nat.lt_irrefl _)
  done := fun s Q E st q => nt_end hh st.2.1 st.2.2 ex q
/-- enumerate(t) is made -/
def tupIt (tp : Addr) : Obj := { cls := .type "tuple_iterator", data := .fields #[.ref tp, .int 0 0] }
def enumOf (ia : Addr) : Obj := { cls := .type "enumerate", data := .fields #[.none, .bool false, .ref ia, rawInt 0, .none, .none] }
theorem meets_enumT (tp : Addr) (zs : Array Value) (n : Nat) (dd : Option Addr) (sl : Array (Option Value)) :
    Meets (Builtin.«enumerate.__new__» ⟨[.type "enumerate", .ref tp], []⟩) (fun _ R s => s.heap.get? tp = some { cls := .type "tuple", dict := dd, data := .seq zs n, slots := sl } ∧
      R (.ok (.ret (.ref (s.heap.push (tupIt tp)).objs.size))) { s with heap := (s.heap.push (tupIt tp)).push (enumOf s.heap.objs.size) }) :=
  .of_wp fun prog w A R s z => by
    obtain ⟨hp, g, d, tk, os⟩ := s
    obtain ⟨e0, z⟩ := z
    have sb := sub_enumerate
    have eT : Heap.IsTuple (Shared.heap ⟨hp, g, d, tk, os⟩) tp zs := ⟨_, e0, rfl, n, rfl⟩
    wp_walk using AutoSeq1.wpAny_loadPart' e0
    refine wpAny_stack_any fun stk => wpAny_pure ?_
    split
    · rename_i c _ _ _ _ _
      cases (c == Value.type "enumerate") <;> (wp_walk using AutoSeq1.wpAny_loadPart' e0, wpAny_pyIter_tuple eT; exact ⟨_, rfl, z⟩)
    · wp_walk using AutoSeq1.wpAny_loadPart' e0, wpAny_pyIter_tuple eT
      exact ⟨_, rfl, z⟩
theorem call_enumT {Q : Value → Shared → Prop} (eT : s.heap.IsTuple tp zs)
    (z : ∀ h', IsEnum h' (s.heap.objs.size + 1) s.heap.objs.size 0 .none → h'.IsTupleIter s.heap.objs.size tp 0 → h'.objs.size = s.heap.objs.size + 2 → (∀ b o, s.heap.get? b = some o → h'.get? b = some o) → Q (.ref (s.heap.objs.size + 1)) { s with heap := h' }) :
    wpAny (model prog w) A (call (.type "enumerate") [.ref tp]) Q E s := by
  obtain ⟨⟨c, dd, dt, sl⟩, e0, ec, n, ed⟩ := eT
  obtain rfl : c = .type "tuple" := ec
  obtain rfl : dt = .seq zs n := ed
  refine callType_new F.called_enumerate (by decide) (F.typeCall_enumerate_1 _) (F.newCall_enumerate_1 _) (fun ob => F.args_object_init_2 ob _) F.entry_enumerate_new (meets_enumT tp zs n dd sl) ⟨e0, ?_⟩
  have z1 : (s.heap.push (tupIt tp)).objs.size = s.heap.objs.size + 1 := Heap.size_push ..
  show _ ∧ _
  rw [z1]
  have z2 : IsEnum ((s.heap.push (tupIt tp)).push (enumOf s.heap.objs.size)) (s.heap.objs.size + 1) s.heap.objs.size 0 .none := by
    have y := Heap.get?_push_size (s.heap.push (tupIt tp)) (o := enumOf s.heap.objs.size) rfl
    rw [z1] at y
    exact y
  exact ⟨⟨_, z2, rfl⟩, z _ z2 ⟨_, Heap.get?_push_of_some _ (Heap.get?_push_size _ rfl), rfl, rfl⟩ (by rw [Heap.size_push, z1]) fun b o y => Heap.get?_push_of_some _ (Heap.get?_push_of_some _ y)⟩
end
/-! ### the walk -/
def ItT (K : PySem.W.Frag) (a : Addr) : It :=
  ⟨fun i H => ∃ (xs : List V) (x : V), SqT K H a xs ∧ xs[i]? = some x, fun i H v H' => ∃ T x, v = .ref T ∧ H T = none ∧ H' = upd H T (.tup [.int (i : Nat), x]) ∧ ∀ xs, SqT K H a xs → xs[i]? = some x, fun i H => ∃ xs : List V, SqT K H a xs ∧ xs.length ≤ i⟩
theorem turn_enumT {P : Program} {w : World} {K : PySem.W.Frag} {elts : List Expr} {kk : Nat} {tpos : Pos} (a en ia : Addr) :
    Turn P w K (.Tuple elts kk tpos) (ItT K a) [en, ia] en (fun i h => (∃ old, IsEnum h en ia ((i : Nat) : Int) old) ∧ h.IsTupleIter ia a i ∧ en ≠ ia ∧ a ≠ ia ∧ a ≠ en) where
  mem := by simp
  obj := fun i h st b hb => by
    obtain ⟨⟨old, he⟩, ⟨o, ho, hc, hd⟩, _⟩ := st
    rcases (show b = en ∨ b = ia by simpa using hb) with z | z
    · exact ⟨_, by rw [z]; exact he, fun v q => by cases q⟩
    · exact ⟨o, by rw [z]; exact ho, fun v q => by rw [hd] at q; cases q⟩
  keep := fun i h h' st k => by
    obtain ⟨⟨old, he⟩, ⟨o, ho, r⟩, hne⟩ := st
    exact ⟨⟨old, k en (by simp) _ he⟩, ⟨o, k ia (by simp) o ho, r⟩, hne⟩
  item := by
    intro X hP hw hK hc i pins s σ H E I hf st hg
    subst hP hw hK
    obtain ⟨⟨old, he⟩, hit, hne, na, nb⟩ := st
    obtain ⟨xs, x, hq, hx⟩ := hg
    obtain ⟨its, rv, p, hz⟩ := I.tuple hq
    obtain ⟨u, hu, ru⟩ := rv.get hx
    have l1 : en < s.heap.objs.size := Heap.lt_size he
    have l2 : ia < s.heap.objs.size := by
      obtain ⟨_, q, _⟩ := hit
      exact Heap.lt_size q
    have D := draws_tup (prog := X.prog) (w := X.w) (A := X.A.in1) (tp := a) (ia := ia) (zs := its.toArray) (I.ok.hd hc) na
    refine wpAny_pyNext_enum_itemD D he ⟨hit, p⟩ (by have := (List.getElem?_eq_some_iff.mp hu).1; simpa using this) hne (by simp [hne, Ne.symm nb]) fun y h' tk ey ho hst hT hsz hk => ?_
    obtain rfl : y = u := by
      have : its[i]? = some y := by simpa using ey
      rw [hu] at this
      exact (Option.some.inj this).symm
    refine ⟨_, rfl, wpAny_letOwnedTupleGo_enum (s := { s with heap := h', toks := tk + 1 }) ho fun h2 he' sb => ?_⟩
    have hT2 : h2.get? s.heap.objs.size = some { cls := .type "tuple", data := .seq #[.int i tk, y] } := (sb.2 _ (Nat.ne_of_gt l1)).trans hT
    have nw : ObjOk X.prog X.w (upd H s.heap.objs.size (.tup [.int (i : Nat), x])) h2 s.heap.objs.size (.tup [.int (i : Nat), x]) := ⟨by show 2 ≤ sizeLine; decide, [.int i tk, y], .cons ⟨_, rfl⟩ (.cons ru .nil), ⟨_, hT2, rfl, _, rfl⟩⟩
    have I1 : Inv X pins σ (upd H s.heap.objs.size (.tup [.int (i : Nat), x])) { s with heap := h2, toks := tk + 1 } :=
      I.turnedNew (ch := [en, ia]) (fun b ob nb' q => (sb.2 b (fun z => nb' (by simp [z]))).trans (hk b ob (fun z => nb' (by simp [z])) (fun z => nb' (by simp [z])) q)) hf (Nat.le_refl _) nw
    refine ⟨.ref s.heap.objs.size, _, I1, rfl, ⟨_, x, rfl, I.hok.fresh (Nat.le_refl _), rfl, fun ys hy => by rw [I.tuple_inj hy hq]; exact hx⟩, ⟨⟨y, ?_⟩, ?_, hne, na, nb⟩, fun b hb => ?_⟩
    · rw [show ((i + 1 : Nat) : Int) = (i : Int) + 1 by omega]
      exact he'
    · obtain ⟨o, eo, r⟩ := hst.1
      exact ⟨o, (sb.2 ia (Ne.symm hne)).trans eo, r⟩
    · have hb' : b < s.heap.objs.size := by
        rcases (show b = en ∨ b = ia by simpa using hb) with z | z
        · rw [z]; exact l1
        · rw [z]; exact l2
      rw [upd_ne (Nat.ne_of_lt hb')]
      exact (hf b hb).1
  done := by
    intro X hP hw hK hc i pins s σ H E I hf st hg
    subst hP hw hK
    obtain ⟨⟨old, he⟩, hit, hne, na, nb⟩ := st
    obtain ⟨xs, hq, hx⟩ := hg
    obtain ⟨its, rv, p, hz⟩ := I.tuple hq
    obtain ⟨f0, f1, f2, f3, f4, f5⟩ := hf ia (by simp)
    have ll := rv.length
    have D := draws_end (prog := X.prog) (w := X.w) (A := X.A.in1) (tp := a) (ia := ia) (zs := its.toArray) (n := i) (I.ok.hd hc) (by simp; omega)
    exact wpAny_pyNext_enum_endD D he ⟨rfl, hit, p⟩ fun h' eb => ⟨rfl, I.turned (t' := s.toks) (fun b o nb' q => eb b o nb' q) f0 f1 f3 f4 f5⟩
  self := fun A i s Q E st h => wpAny_pyIter_enum st.1.choose_spec h
def iEnumT (K : PySem.W.Frag) (ta : TA) : TI := fun σ H R => ta σ H fun vs H1 => ∃ a xs, vs = [.ref a] ∧ SqT K H1 a xs ∧ R (ItT K a) H1
theorem pi_enumT {X : Cx} {e : Expr} {ta : TA} {p pos tpos : Pos} {elts : List Expr} {kk : Nat} (hg : Gl X "enumerate") (hm : X.mg "enumerate" = none) (ha : PA X [e] ta) (hs : starEach [e] X.env = [(false, eval e X.env)] := by rfl) :
    PI X (.Tuple elts kk tpos) (.Call (.Name "enumerate" p) [e] [] pos) (iEnumT X.K ta) := by
  refine ⟨fun pins s σ H R I z => ?_⟩
  refine Call_ (ld_blt I hg hm boot_enumerate (PyProof.Rows.callWith_type1 (thn (ha.run pos pins s σ H _ I z) fun us s1 ⟨vs, H1, I1, r1, a, xs, ex, hq, q⟩ => ?_) hs rfl))
  subst ex
  obtain ⟨v, rfl, rv0⟩ := Vals.one r1
  obtain rfl : v = Value.ref a := rv0
  obtain ⟨its, rv, p', hz⟩ := I1.tuple hq
  have la : a < s1.heap.objs.size := by
    obtain ⟨o, eo, _⟩ := p'
    exact Heap.lt_size eo
  refine call_enumT (zs := its.toArray) p' fun h' he hit hsz hk => wpAny_pyIter_enum he ?_
  have I2 : Inv X pins σ H1 { s1 with heap := h' } := I1.kept (t' := s1.toks) hk
  refine ⟨s1.heap.objs.size + 1, [s1.heap.objs.size + 1, s1.heap.objs.size], _, _, H1, rfl, I2, turn_enumT a (s1.heap.objs.size + 1) s1.heap.objs.size, ⟨⟨.none, he⟩, hit, Nat.succ_ne_self _, Nat.ne_of_lt la, Nat.ne_of_lt (Nat.lt_succ_of_lt la)⟩, fun b hb => ?_, q⟩
  have hle : s1.heap.objs.size ≤ b := by
    rcases (show b = s1.heap.objs.size + 1 ∨ b = s1.heap.objs.size by simpa using hb) with y | y
    · rw [y]
      exact Nat.le_succ _
    · rw [y]
      exact Nat.le_refl _
  exact I1.fpOk hle (I1.hok.fresh hle)
end TL

/-! TL, twelfth part: walks of enumerate(t), targets within targets. -/
namespace TL
open PySem L2
section
variable {K : PySem.W.Frag} {G : Gm} {Mu Mu1 : Mm} {tl : TE} {α β γ : Type} {R : Rep α} {xs : List α}
theorem enumI_get {i : Nat} : (enumI xs)[i]? = (xs[i]?).map fun x => ((i : Int), x) := by
  unfold enumI
  rw [List.getElem?_map, List.getElem?_zipIdx]
  cases xs[i]? <;> simp
theorem enumI_len : (enumI xs).length = xs.length := by simp [enumI]
theorem ei_enumT (h : EvV K tl G Mu Mu1 (.val (tv (rSq .t R) xs))) : EvI K (iEnumT K (tCons tl tNil)) G Mu Mu1 ((enumI xs).map (tv (rP2 rInt R))) AnyM (((enumI xs).map (tv (rP2 rInt R))).length ≤ sizeLine) := fun B σ S ls H Rr sl hs q =>
  h B σ S ls H _ sl hs fun x S1 l1 H1 a1 b1 c1 d1 => by
    obtain ⟨p, vs, e, sq, hz, r⟩ := d1
    subst e
    have hl : vs.length = xs.length := by rw [Paired.length r, List.length_map]
    have sql : SqT K S1 p vs := SqT.of sq
    refine ⟨p, vs, rfl, same_seqT c1.ex sql, q _ S1 l1 H1 a1 b1 c1 (fun B i S2 l2 M2 H2 sa pr _ hs2 => ?_) (by rw [List.length_map, enumI_len, ← hl]; exact hz)⟩
    have sq2 : SqT K H2 p vs := same_seqT (sa.trans hs2.ex) sql
    refine ⟨fun t et => ?_, fun hi => ⟨vs, sq2, by rw [List.length_map, enumI_len] at hi; rw [hl]; exact hi⟩⟩
    rw [List.getElem?_map, enumI_get] at et
    cases ex : xs[i]? with
    | none =>
      rw [ex] at et
      cases et
    | some y =>
      rw [ex] at et
      obtain rfl : t = tv (rP2 rInt R) ((i : Int), y) := (Option.some.inj et).symm
      obtain ⟨v, e1, e2⟩ := Paired.get2 r (i := i) (y := tv R y) (by rw [List.getElem?_map, ex]; rfl)
      refine ⟨⟨vs, v, sq2, e1⟩, fun z H3 yy => ?_⟩
      obtain ⟨T, v', ez, en, eh, hv⟩ := yy
      subst ez eh
      obtain rfl : v' = v := Option.some.inj ((hv vs sq2).symm.trans e1)
      obtain ⟨s2, h2⟩ := hs2.laid (o := .tup [.int (i : Nat), v']) en
      refine ⟨_, s2, h2, ⟨T, _, rfl, upd_same, by show 2 ≤ sizeLine; decide, .cons rfl (.cons ?_ .nil)⟩, same_new en, fun a o ea => ?_⟩
      · exact R.mono (sa.trans s2) e2
      · by_cases ha : a = T
        · subst ha
          exact .inr en
        · rw [upd_ne ha] at ea
          exact .inl ea
/-- i, (a, b) -/
theorem eg_tup2n {A : Rep α} {B' : Rep β} {C : Rep γ} {i j m : Nat} {x : α × β × γ} : EvG K (gTup K 2 (gCons (gName i) (gCons (gTup K 2 (gCons (gName j) (gCons (gName m) gNil))) gNil))) (.val (tv (rP2 A (rP2 B' C)) x)) G (((G.set i (some (.val (tv A x.1)))).set j (some (.val (tv B' x.2.1)))).set m (some (.val (tv C x.2.2)))) := fun B v σ S ls Mu H Q r sl hs q => by
  obtain ⟨p, vs, e, sq, l, rr⟩ := r
  have sq : SqT K S p vs := SqT.of sq
  cases rr with
  | cons r0 rr => cases rr with
    | cons r1 rr =>
      cases rr
      refine ⟨p, _, e, same_seqT hs.ex sq, rfl, _, _, rfl, _, _, rfl, ?_⟩
      exact eg_tup2 (K := K) (A := B') (B' := C) (x := x.2) B _ _ S ls Mu H _ r1 (Sl.set (s := .val (tv A x.1)) sl r0) hs fun σ' sl' => ⟨rfl, q _ sl'⟩
/-- a tuple's item behind the first one, of one kind -/
theorem at_tail {t0 : TV} {k : Int} {y : α} (h : getT xs k = .ok y) : atI (t0 :: xs.map (tv R)) k = some (tv R y) := by
  unfold getT at h
  split at h
  · rename_i h1
    have e := at_map (R := R) h
    unfold atI ixN at e ⊢
    rw [if_pos (by omega)] at e
    rw [if_pos (by omega), List.length_cons]
    by_cases hk : k - 1 < ((xs.map (tv R)).length : Int)
    · rw [if_pos hk] at e
      rw [if_pos (by omega)]
      have e : (xs.map (tv R))[(k - 1).toNat]? = some (tv R y) := e
      show (t0 :: xs.map (tv R))[k.toNat]? = _
      rw [show k.toNat = (k - 1).toNat + 1 by omega, List.getElem?_cons_succ]
      exact e
    · rw [if_neg hk] at e
      cases e
  · cases h
/-- and, or, the second one changing own cells -/
theorem et_andS {tt tu : TT} {τ : Type} {mu : τ → Mm} {s0 : τ} {a : Bool} {r : Bool × τ} {p : Mr (Bool × τ)} (h1 : EvT K tt G Mu (mu s0) a) (hc : (if a = true then p else .ok (false, s0)) = .ok r) (h2 : a = true → p = .ok r → EvT K tu G (mu s0) (mu r.2) r.1) : EvT K (tAnd tt tu) G Mu (mu r.2) r.1 := by
  cases a with
  | true =>
    rw [if_pos rfl] at hc
    have := et_and (Mu3 := mu r.2) h1 (fun _ => h2 rfl hc) (fun _ => rfl) (fun z => nomatch z)
    simpa using this
  | false =>
    rw [if_neg Bool.false_ne_true] at hc
    cases hc
    exact et_and (a := false) (b := false) (Mu2 := mu s0) (Mu3 := mu s0) h1 (fun z => nomatch z) (fun z => nomatch z) (fun _ => rfl)
theorem et_orS {tt tu : TT} {τ : Type} {mu : τ → Mm} {s0 : τ} {a : Bool} {r : Bool × τ} {p : Mr (Bool × τ)} (h1 : EvT K tt G Mu (mu s0) a) (hc : (if a = true then .ok (true, s0) else p) = .ok r) (h2 : a = false → p = .ok r → EvT K tu G (mu s0) (mu r.2) r.1) : EvT K (tOr tt tu) G Mu (mu r.2) r.1 := by
  cases a with
  | false =>
    rw [if_neg Bool.false_ne_true] at hc
    have := et_or (Mu3 := mu r.2) h1 (fun _ => h2 rfl hc) (fun _ => rfl) (fun z => nomatch z)
    simpa using this
  | true =>
    rw [if_pos rfl] at hc
    cases hc
    exact et_or (a := true) (b := false) (Mu2 := mu s0) (Mu3 := mu s0) h1 (fun z => nomatch z) (fun z => nomatch z) (fun _ => rfl)
theorem oeTS {tt : TT} {τ : Type} {mu : τ → Mm} {c : Bool} {s : τ} {r : Bool × τ} (e : (Except.ok (c, s) : Mr (Bool × τ)) = .ok r) (h : EvT K tt G Mu (mu s) c) : EvT K tt G Mu (mu r.2) r.1 := by
  cases e
  exact h
end
end TL

/-! TL: nodes: objects whose items may be owned objects; instances. -/
namespace TL
open PySem L2
/-! ### items -/
inductive IV where
  | val (t : TV) | own (m : MV) | at_ (b : Addr)
def IV.p (K : PySem.W.Frag) (S H : Hp) (v : V) (f : FP) : IV → Prop
  | .val t => (∀ b, ¬ f b) ∧ t.p K S v
  | .own m => ∃ a, v = .ref a ∧ m.q K S H a f
  | .at_ a => (∀ b, ¬ f b) ∧ v = .ref a
theorem IV.mono {K : PySem.W.Frag} {S S' H : Hp} {v : V} {f : FP} (h : Same S S') : ∀ {i : IV}, i.p K S H v f → i.p K S' H v f
  | .val t, q => ⟨q.1, t.mono h q.2⟩
  | .own m, ⟨a, e, q⟩ => ⟨a, e, m.mono h q⟩
  | .at_ a, q => q
theorem IV.loc {K : PySem.W.Frag} {S H H' : Hp} {v : V} {f : FP} (h : ∀ b, f b → H' b = H b) : ∀ {i : IV}, i.p K S H v f → i.p K S H' v f
  | .val t, q => q
  | .own m, ⟨a, e, q⟩ => ⟨a, e, m.loc h q⟩
  | .at_ a, q => q
structure AllI (K : PySem.W.Frag) (S H : Hp) (vs : List V) (is : List IV) (g : Nat → FP) : Prop where
  len : vs.length = is.length
  at_ : ∀ (i : Nat) (v : V) (s : IV), vs[i]? = some v → is[i]? = some s → s.p K S H v (g i)
  lt : ∀ i b, g i b → i < is.length
  dis : ∀ i j b, g i b → g j b → i = j
/-- what stands at the root: the object's kind -/
structure Shp where
  ok : PySem.W.Frag → Hp → Addr → List V → FP → Prop
  loc : ∀ {K : PySem.W.Frag} {H H' : Hp} {a : Addr} {vs : List V} {x : FP}, H' a = H a → (∀ b, x b → H' b = H b) → ok K H a vs x → ok K H' a vs x
  nx : ∀ {K : PySem.W.Frag} {H : Hp} {a : Addr} {vs : List V} {x : FP}, ok K H a vs x → ¬ x a
def mN (sh : Shp) (is : List IV) : MV where
  q := fun K S H a f => ∃ vs x g, sh.ok K H a vs x ∧ AllI K S H vs is g ∧ (∀ b, f b ↔ b = a ∨ x b ∨ ∃ i, g i b) ∧ ∀ i b, g i b → b ≠ a ∧ ¬ x b
  mono := fun h ⟨vs, x, g, e1, e2, e3, e4⟩ => ⟨vs, x, g, e1, ⟨e2.len, fun i v s a b => IV.mono h (e2.at_ i v s a b), e2.lt, e2.dis⟩, e3, e4⟩
  loc := fun h ⟨vs, x, g, e1, e2, e3, e4⟩ => ⟨vs, x, g, sh.loc (h _ ((e3 _).mpr (.inl rfl))) (fun b z => h b ((e3 b).mpr (.inr (.inl z)))) e1, ⟨e2.len, fun i v s a b => IV.loc (fun c z => h c ((e3 c).mpr (.inr (.inr ⟨i, z⟩)))) (e2.at_ i v s a b), e2.lt, e2.dis⟩, e3, e4⟩
  hd := fun ⟨vs, x, g, e1, e2, e3, e4⟩ => (e3 _).mpr (.inl rfl)
/-! ### kinds -/
def shL : Shp where
  ok := fun K H a vs x => H a = some (.lst vs) ∧ vs.length ≤ sizeLine ∧ ∀ b, ¬ x b
  loc := fun h _ ⟨e, l, z⟩ => ⟨h.trans e, l, z⟩
  nx := fun ⟨_, _, z⟩ => z _
/-- an instance of the program's class cn -/
def shO (cn : Str) (ns : List Str) : Shp where
  ok := fun K H a vs x => ∃ dx, H a = some (.ins (He.ga K cn) dx (ns.zip vs)) ∧ H dx = some (.own a) ∧ dx ≠ a ∧ ns.length = vs.length ∧ ∀ b, x b ↔ b = dx
  loc := fun h hx ⟨dx, e1, e2, e3, e4, e5⟩ => ⟨dx, h.trans e1, (hx _ ((e5 _).mpr rfl)).trans e2, e3, e4, e5⟩
  nx := fun ⟨dx, _, _, e3, _, e5⟩ z => e3 ((e5 _).mp z).symm
abbrev mLI (is : List IV) : MV := mN shL is
abbrev mO (cn : Str) (ns : List Str) (is : List IV) : MV := mN (shO cn ns) is

/-! ### opened, closed -/
section
variable {K : PySem.W.Frag} {B : Bs} {S H : Hp} {ls : List Addr} {Mu : Mm} {k i n : Nat} {sh : Shp} {is : List IV} {m m' : MV}
theorem getElem?_set_iv {is : List IV} {i j : Nat} {s : IV} (h : j ≠ i) : (is.set i s)[j]? = is[j]? := List.getElem?_set_ne (Ne.symm h)
theorem HS.open_ (h : HS K B S ls Mu H) (ek : Mu[k]? = some (some (mN sh is))) (ei : is[i]? = some (.own m)) : ∃ b, HS K B S (ls ++ [b]) (Mu.set k (some (mN sh (is.set i (.at_ b)))) ++ [some (mA b m)]) H := by
  obtain ⟨F, w⟩ := h.own
  obtain ⟨a, e1, vs, x, g, q1, q2, q3, q4⟩ := w.cell k _ ek
  have hk := (List.getElem?_eq_some_iff.mp ek).1
  have hi := (List.getElem?_eq_some_iff.mp ei).1
  obtain ⟨v, ev⟩ : ∃ v, vs[i]? = some v := ⟨vs[i]'(by rw [q2.len]; exact hi), List.getElem?_eq_getElem _⟩
  obtain ⟨b, e2, e3⟩ := q2.at_ i v _ ev ei
  refine ⟨b, ?_⟩
  -- the parent keeps all but the item's footprint
  have sub : ∀ c, g i c → F k c := fun c z => (q3 c).mpr (.inr (.inr ⟨i, z⟩))
  have hq : (mN sh (is.set i (.at_ b))).q K S H a (fun c => F k c ∧ ¬ g i c) := by
    refine ⟨vs, x, fun j c => j ≠ i ∧ g j c, q1, ⟨by rw [List.length_set]; exact q2.len, fun j u s a1 a2 => ?_, fun j c z => by rw [List.length_set]; exact q2.lt j c z.2, fun j l c z y => q2.dis j l c z.2 y.2⟩, fun c => ?_, fun j c z => q4 j c z.2⟩
    · by_cases hj : j = i
      · subst hj
        rw [List.getElem?_set_self hi] at a2
        cases a2
        rw [ev] at a1
        cases a1
        exact ⟨fun c z => z.1 rfl, e2⟩
      · rw [getElem?_set_iv hj] at a2
        have := q2.at_ j u s a1 a2
        have eg : (fun c => j ≠ i ∧ g j c) = g j := by
          funext c
          exact propext ⟨fun z => z.2, fun z => ⟨hj, z⟩⟩
        show s.p K S H u (fun c => j ≠ i ∧ g j c)
        rw [eg]
        exact this
    · constructor
      · rintro ⟨z, nz⟩
        rcases (q3 c).mp z with y | y | ⟨j, y⟩
        · exact .inl y
        · exact .inr (.inl y)
        · exact .inr (.inr ⟨j, fun e => nz (e ▸ y), y⟩)
      · rintro (y | y | ⟨j, hj, y⟩)
        · exact ⟨(q3 c).mpr (.inl y), fun z => (q4 i c z).1 y⟩
        · exact ⟨(q3 c).mpr (.inr (.inl y)), fun z => (q4 i c z).2 y⟩
        · exact ⟨(q3 c).mpr (.inr (.inr ⟨j, y⟩)), fun z => hj (q2.dis j i c y z)⟩
  have fp : ∀ j c, (if j = k then F k c ∧ ¬ g i c else F j c) → F j c := fun j c z => by
    by_cases hj : j = k
    · rw [if_pos hj] at z
      rw [hj]
      exact z.1
    · rw [if_neg hj] at z
      exact z
  have w2 : Own K B S ls (Mu.set k (some (mN sh (is.set i (.at_ b))))) H (fun j c => if j = k then F k c ∧ ¬ g i c else F j c) := by
    refine ⟨fun j l c z y => w.dis j l c (fp j c z) (fp l c y), fun j c z => by rw [List.length_set]; exact w.lt j c (fp j c z), fun j mj ej => ?_, fun j c z => w.off j c (fp j c z), fun j c z => w.inH j c (fp j c z), fun j c z => w.from_ j c (fp j c z)⟩
    by_cases hj : j = k
    · subst hj
      rw [List.getElem?_set_self hk] at ej
      obtain rfl : mN sh (is.set i (.at_ b)) = mj := by simpa using ej
      refine ⟨a, e1, ?_⟩
      have eg : (fun c => if j = j then F j c ∧ ¬ g i c else F j c) = fun c => F j c ∧ ¬ g i c := by
        funext c
        rw [if_pos rfl]
      show (mN sh (is.set i (.at_ b))).q K S H a (fun c => if j = j then F j c ∧ ¬ g i c else F j c)
      rw [eg]
      exact hq
    · rw [List.getElem?_set_ne (Ne.symm hj)] at ej
      obtain ⟨c, f1, f2⟩ := w.cell j mj ej
      refine ⟨c, f1, ?_⟩
      have eg : (fun c => if j = k then F k c ∧ ¬ g i c else F j c) = F j := by
        funext c
        rw [if_neg hj]
      show mj.q K S H c (fun c => if j = k then F k c ∧ ¬ g i c else F j c)
      rw [eg]
      exact f2
  have h2 : HS K B S ls (Mu.set k (some (mN sh (is.set i (.at_ b))))) H := ⟨h.ex, h.s0, h.new, h.fr, h.c0, h.c1, by simp [h.len], _, w2⟩
  refine h2.push0 (g := g i) ⟨rfl, e3⟩ (fun c z => w.off k c (sub c z)) (fun c z => w.inH k c (sub c z)) (fun c z => w.from_ k c (sub c z)) ⟨_, w2, fun j c z y => ?_⟩
  by_cases hj : j = k
  · rw [if_pos hj] at z
    exact z.2 y
  · rw [if_neg hj] at z
    exact hj (w.dis j k c z (sub c y))
theorem HS.close_ {b : Addr} (h : HS K B S ls Mu H) (ek : Mu[k]? = some (some (mN sh is))) (ei : is[i]? = some (.at_ b)) (en : Mu[n]? = some (some (mA b m'))) (hn : n ≠ k) : HS K B S ls ((Mu.set k (some (mN sh (is.set i (.own m'))))).set n none) H := by
  obtain ⟨F, w⟩ := h.own
  obtain ⟨a, e1, vs, x, g, q1, q2, q3, q4⟩ := w.cell k _ ek
  obtain ⟨a', f1, f2, f3⟩ := w.cell n _ en
  subst f2
  have hk := (List.getElem?_eq_some_iff.mp ek).1
  have hi := (List.getElem?_eq_some_iff.mp ei).1
  have ap : ∀ c, F k c → ¬ F n c := fun c z y => hn (w.dis n k c y z)
  have gi : ∀ j c, g j c → F k c := fun j c z => (q3 c).mpr (.inr (.inr ⟨j, z⟩))
  obtain ⟨v, ev⟩ : ∃ v, vs[i]? = some v := ⟨vs[i]'(by rw [q2.len]; exact hi), List.getElem?_eq_getElem _⟩
  have gi0 : ∀ c, ¬ g i c := (q2.at_ i v _ ev ei).1
  have ei0 : v = .ref a' := (q2.at_ i v _ ev ei).2
  refine ⟨h.ex, h.s0, h.new, h.fr, h.c0, h.c1, by simp [h.len], fun j c => if j = k then F k c ∨ F n c else j ≠ n ∧ F j c, fun j l c z y => ?_, fun j c z => ?_, fun j mj ej => ?_, fun j c z => ?_, fun j c z => ?_, fun j c z => ?_⟩
  · have go : ∀ j, (if j = k then F k c ∨ F n c else j ≠ n ∧ F j c) → (j = k ∧ F n c) ∨ (F j c ∧ j ≠ n) := fun j z => by
      by_cases hj : j = k
      · rw [if_pos hj] at z
        rcases z with z | z
        · exact .inr ⟨by rw [hj]; exact z, fun e => hn (by rw [← e, hj])⟩
        · exact .inl ⟨hj, z⟩
      · rw [if_neg hj] at z
        exact .inr ⟨z.2, z.1⟩
    rcases go j z with ⟨z1, z2⟩ | ⟨z1, z2⟩ <;> rcases go l y with ⟨y1, y2⟩ | ⟨y1, y2⟩
    · rw [z1, y1]
    · exact absurd (w.dis n l c z2 y1).symm y2
    · exact absurd (w.dis n j c y2 z1).symm z2
    · exact w.dis j l c z1 y1
  · rw [List.length_set, List.length_set]
    by_cases hj : j = k
    · rw [hj]
      exact hk
    · rw [if_neg hj] at z
      exact w.lt j c z.2
  · by_cases hj : j = k
    · subst hj
      rw [List.getElem?_set_ne hn, List.getElem?_set_self hk] at ej
      obtain rfl : mN sh (is.set i (.own m')) = mj := by simpa using ej
      refine ⟨a, e1, vs, x, fun l c => if l = i then F n c else g l c, q1, ⟨by rw [List.length_set]; exact q2.len, fun l u s a1 a2 => ?_, fun l c z => ?_, fun l l' c z y => ?_⟩, fun c => ?_, fun l c z => ?_⟩
      · by_cases hl : l = i
        · subst hl
          rw [List.getElem?_set_self hi] at a2
          cases a2
          rw [ev] at a1
          cases a1
          have eg : (fun c => if l = l then F n c else g l c) = F n := by
            funext c
            rw [if_pos rfl]
          exact ⟨a', ei0, by show m'.q K S H a' (fun c => if l = l then F n c else g l c); rw [eg]; exact f3⟩
        · rw [getElem?_set_iv hl] at a2
          have eg : (fun c => if l = i then F n c else g l c) = g l := by
            funext c
            rw [if_neg hl]
          show s.p K S H u (fun c => if l = i then F n c else g l c)
          rw [eg]
          exact q2.at_ l u s a1 a2
      · rw [List.length_set]
        by_cases hl : l = i
        · rw [hl]
          exact hi
        · rw [if_neg hl] at z
          exact q2.lt l c z
      · by_cases hl : l = i <;> by_cases hl' : l' = i
        · rw [hl, hl']
        · rw [if_pos hl] at z
          rw [if_neg hl'] at y
          exact absurd z (ap c (gi l' c y))
        · rw [if_neg hl] at z
          rw [if_pos hl'] at y
          exact absurd y (ap c (gi l c z))
        · rw [if_neg hl] at z
          rw [if_neg hl'] at y
          exact q2.dis l l' c z y
      · show (if j = j then F j c ∨ F n c else j ≠ n ∧ F j c) ↔ _
        rw [if_pos rfl]
        constructor
        · rintro (z | z)
          · rcases (q3 c).mp z with y | y | ⟨l, y⟩
            · exact .inl y
            · exact .inr (.inl y)
            · exact .inr (.inr ⟨l, by show if l = i then F n c else g l c; rw [if_neg (fun e : l = i => gi0 c (by rw [← e]; exact y))]; exact y⟩)
          · exact .inr (.inr ⟨i, by show if i = i then F n c else g i c; rw [if_pos rfl]; exact z⟩)
        · rintro (y | y | ⟨l, y⟩)
          · exact .inl ((q3 c).mpr (.inl y))
          · exact .inl ((q3 c).mpr (.inr (.inl y)))
          · have y : if l = i then F n c else g l c := y
            by_cases hl : l = i
            · rw [if_pos hl] at y
              exact .inr y
            · rw [if_neg hl] at y
              exact .inl (gi l c y)
      · have z : if l = i then F n c else g l c := z
        by_cases hl : l = i
        · rw [if_pos hl] at z
          exact ⟨fun e => ap c ((q3 c).mpr (.inl e)) z, fun e => ap c ((q3 c).mpr (.inr (.inl e))) z⟩
        · rw [if_neg hl] at z
          exact q4 l c z
    · by_cases hj2 : j = n
      · subst hj2
        have hl : j < (Mu.set k (some (mN sh (is.set i (.own m'))))).length := by
          rw [List.length_set]
          exact (List.getElem?_eq_some_iff.mp en).1
        rw [List.getElem?_set_self hl] at ej
        cases ej
      · rw [List.getElem?_set_ne (Ne.symm hj2), List.getElem?_set_ne (Ne.symm hj)] at ej
        obtain ⟨c, g1, g2⟩ := w.cell j mj ej
        have eg : (fun c => if j = k then F k c ∨ F n c else j ≠ n ∧ F j c) = F j := by
          funext c
          rw [if_neg hj]
          exact propext ⟨fun z => z.2, fun z => ⟨hj2, z⟩⟩
        refine ⟨c, g1, ?_⟩
        show mj.q K S H c (fun c => if j = k then F k c ∨ F n c else j ≠ n ∧ F j c)
        rw [eg]
        exact g2
  all_goals
    by_cases hj : j = k
    · rw [if_pos hj] at z
      rcases z with z | z
      · first | exact w.off k c z | exact w.inH k c z | exact w.from_ k c z
      · first | exact w.off n c z | exact w.inH n c z | exact w.from_ n c z
    · rw [if_neg hj] at z
      first | exact w.off j c z.2 | exact w.inH j c z.2 | exact w.from_ j c z.2
end
end TL

/-! TL: instances: fields, made, methods; nodes opened and closed in blocks. -/
namespace TL
open PySem L2
section
variable {ω : Type} {W : Xw} {np : Nat} {κ : ω → OS} {mm : Mr ω} {u t : TS} {K : PySem.W.Frag} {G : Gm} {Mu Mu1 Mu2 Mu3 : Mm} {te to ti : TE} {tt : TT} {s : SV} {k i j n p : Nat} {sh : Shp} {is : List IV} {m m' : MV} {tv' : TV} {b : Addr} {bb : Bool} {x : Xc}
/-! ### opened, closed -/
theorem eb_open (hk : Mu[k]? = some (some (mN sh is))) (hi : is[i]? = some (.own m)) (h : ∀ b, EvB K W np t G (Mu.set k (some (mN sh (is.set i (.at_ b)))) ++ [some (mA b m)]) κ mm) : EvB K W np t G Mu κ mm := fun B σ S ls H D w hn sl hs e q => by
  obtain ⟨b, h2⟩ := hs.open_ hk hi
  exact h b B σ S (ls ++ [b]) H D w hn (sl.mono (Same.refl _) ⟨[b], rfl⟩) h2 e (q.mono (Same.refl _) ⟨[b], rfl⟩)
theorem eb_openA {c : Addr} (hk : Mu[k]? = some (some (mA c (mN sh is)))) (hi : is[i]? = some (.own m)) (h : ∀ b, EvB K W np t G (Mu.set k (some (mA c (mN sh (is.set i (.at_ b))))) ++ [some (mA b m)]) κ mm) : EvB K W np t G Mu κ mm := fun B σ S ls H D w hn sl hs e q => by
  have hk' := (List.getElem?_eq_some_iff.mp hk).1
  obtain ⟨F, o⟩ := hs.own
  obtain ⟨a, ea, eq⟩ := o.cell k _ hk
  obtain rfl : a = c := eq.1
  have g1 : HS K B S ls (Mu.set k (some (mN sh is))) H := hs.mapCells (by simp) fun j m' ej => by
    by_cases hj : j = k
    · subst hj
      rw [List.getElem?_set_self hk'] at ej
      obtain rfl : mN sh is = m' := by simpa using ej
      exact ⟨_, hk, fun a f _ q => q.2⟩
    · rw [List.getElem?_set_ne (Ne.symm hj)] at ej
      exact ⟨m', ej, fun a f _ q => q⟩
  obtain ⟨b, h2⟩ := g1.open_ (k := k) (by rw [List.getElem?_set_self hk']) hi
  rw [List.set_set] at h2
  have h3 : HS K B S (ls ++ [b]) (Mu.set k (some (mA a (mN sh (is.set i (.at_ b))))) ++ [some (mA b m)]) H := h2.mapCells (by simp) fun j m' ej => by
    by_cases hj : j = k
    · subst hj
      rw [List.getElem?_append_left (by simpa using hk'), List.getElem?_set_self hk'] at ej
      obtain rfl : mA a (mN sh (is.set i (.at_ b))) = m' := by simpa using ej
      refine ⟨mN sh (is.set i (.at_ b)), by rw [List.getElem?_append_left (by simpa using hk'), List.getElem?_set_self hk'], fun a' f e q => ⟨?_, q⟩⟩
      rw [(Pre.app (Pre.refl ls)).get ea] at e
      exact (Option.some.inj e).symm
    · refine ⟨m', ?_, fun a f _ q => q⟩
      by_cases hl : j < Mu.length
      · rw [List.getElem?_append_left (by simpa using hl), List.getElem?_set_ne (Ne.symm hj)] at ej ⊢
        exact ej
      · rw [List.getElem?_append_right (by simp; omega)] at ej ⊢
        simpa using ej
  exact h b B σ S (ls ++ [b]) H D w hn (sl.mono (Same.refl _) ⟨[b], rfl⟩) h3 e (q.mono (Same.refl _) ⟨[b], rfl⟩)
/-- a state closed -/
theorem HS.closeP {B : Bs} {S H : Hp} {ls : List Addr} (oc : Option Addr) (h : HS K B S ls Mu H) (hk : Mu[k]? = some (some (pin oc (mN sh is)))) (hi : is[i]? = some (.at_ b)) (hn : Mu[n]? = some (some (mA b m'))) (ne : n ≠ k) : HS K B S ls ((Mu.set k (some (pin oc (mN sh (is.set i (.own m')))))).set n none) H := by
  have hk' := (List.getElem?_eq_some_iff.mp hk).1
  obtain ⟨F, o⟩ := h.own
  obtain ⟨a, ea, eq⟩ := o.cell k _ hk
  have ep := (pin_q.mp eq).1
  have g1 : HS K B S ls (Mu.set k (some (mN sh is))) H := h.mapCells (by simp) fun j m2 ej => by
    by_cases hj : j = k
    · subst hj
      rw [List.getElem?_set_self hk'] at ej
      obtain rfl : mN sh is = m2 := by simpa using ej
      exact ⟨_, hk, fun a f _ q => (pin_q.mp q).2⟩
    · rw [List.getElem?_set_ne (Ne.symm hj)] at ej
      exact ⟨m2, ej, fun a f _ q => q⟩
  have h2 := g1.close_ (k := k) (n := n) (by rw [List.getElem?_set_self hk']) hi (by rw [List.getElem?_set_ne (Ne.symm ne)]; exact hn) ne
  rw [List.set_set] at h2
  refine h2.mapCells (by simp) fun j m2 ej => ?_
  by_cases hj : j = k
  · subst hj
    rw [List.getElem?_set_ne ne, List.getElem?_set_self hk'] at ej
    obtain rfl : pin oc (mN sh (is.set i (.own m'))) = m2 := by simpa using ej
    refine ⟨mN sh (is.set i (.own m')), by rw [List.getElem?_set_ne ne, List.getElem?_set_self hk'], fun a' f e q => pin_q.mpr ⟨fun c ec => ?_, q⟩⟩
    rw [ea] at e
    rw [← Option.some.inj e]
    exact ep c ec
  · refine ⟨m2, ?_, fun a f _ q => q⟩
    by_cases hj2 : j = n
    · subst hj2
      have hl : j < Mu.length := (List.getElem?_eq_some_iff.mp hn).1
      rw [List.getElem?_set_self (by simpa using hl)] at ej
      cases ej
    · rw [List.getElem?_set_ne (Ne.symm hj2), List.getElem?_set_ne (Ne.symm hj)] at ej ⊢
      exact ej
theorem eb_close (oc : Option Addr) (hk : Mu[k]? = some (some (pin oc (mN sh is)))) (hi : is[i]? = some (.at_ b)) (hn : Mu[n]? = some (some (mA b m'))) (ne : n ≠ k) (h : EvB K W np t G ((Mu.set k (some (pin oc (mN sh (is.set i (.own m')))))).set n none) κ mm) : EvB K W np t G Mu κ mm := fun B σ S ls H D w hl sl hs e q =>
  h B σ S ls H D w hl sl (hs.closeP oc hk hi hn ne) e q
theorem ev_close (oc : Option Addr) (h : EvV K te G Mu Mu1 (.val tv')) (hk : Mu1[k]? = some (some (pin oc (mN sh is)))) (hi : is[i]? = some (.at_ b)) (hn : Mu1[n]? = some (some (mA b m'))) (ne : n ≠ k) : EvV K te G Mu ((Mu1.set k (some (pin oc (mN sh (is.set i (.own m')))))).set n none) (.val tv') := fun B σ S ls H Q sl hs q =>
  h B σ S ls H Q sl hs fun v S1 l1 H1 a1 b1 c1 d1 => q v S1 l1 H1 a1 b1 (c1.closeP oc hk hi hn ne) d1
theorem ev_closeN (oc : Option Addr) (h : EvV K te G Mu Mu1 vN) (hk : Mu1[k]? = some (some (pin oc (mN sh is)))) (hi : is[i]? = some (.at_ b)) (hn : Mu1[n]? = some (some (mA b m'))) (ne : n ≠ k) : EvV K te G Mu ((Mu1.set k (some (pin oc (mN sh (is.set i (.own m')))))).set n none) vN := ev_close oc h hk hi hn ne
theorem et_close (oc : Option Addr) (h : EvT K tt G Mu Mu1 bb) (hk : Mu1[k]? = some (some (pin oc (mN sh is)))) (hi : is[i]? = some (.at_ b)) (hn : Mu1[n]? = some (some (mA b m'))) (ne : n ≠ k) : EvT K tt G Mu ((Mu1.set k (some (pin oc (mN sh (is.set i (.own m')))))).set n none) bb := fun B σ S ls H Q sl hs q =>
  h B σ S ls H Q sl hs fun S1 l1 H1 a1 b1 c1 => q S1 l1 H1 a1 b1 (c1.closeP oc hk hi hn ne)
theorem xs_close (oc : Option Addr) (h : EvXS K W t G Mu Mu1 x) (hk : Mu1[k]? = some (some (pin oc (mN sh is)))) (hi : is[i]? = some (.at_ b)) (hn : Mu1[n]? = some (some (mA b m'))) (ne : n ≠ k) : EvXS K W t G Mu ((Mu1.set k (some (pin oc (mN sh (is.set i (.own m')))))).set n none) x := fun B σ S ls H D sl hs q =>
  h B σ S ls H D sl hs fun S1 l1 H1 cls d a1 b1 c1 hx => q S1 l1 H1 cls d a1 b1 (c1.closeP oc hk hi hn ne) hx
/-! ### what a node's cell holds -/
theorem HS.node {B : Bs} {S H : Hp} {ls : List Addr} {oc : Option Addr} (h : HS K B S ls Mu H) (hk : Mu[k]? = some (some (pin oc (mN sh is)))) : ∃ a vs y, ls[k]? = some a ∧ sh.ok K H a vs y ∧ vs.length = is.length ∧ ∀ (i : Nat) (v : V) (s : IV), vs[i]? = some v → is[i]? = some s → ∃ f, s.p K S H v f := by
  obtain ⟨F, o⟩ := h.own
  obtain ⟨a, ea, eq⟩ := o.cell k _ hk
  obtain ⟨_, vs, y, g, q1, q2, q3, q4⟩ := pin_q.mp eq
  exact ⟨a, vs, y, ea, q1, q2.len, fun i v s a1 a2 => ⟨_, q2.at_ i v s a1 a2⟩⟩
theorem HS.rootA {B : Bs} {S H : Hp} {ls : List Addr} (h : HS K B S ls Mu H) (hk : Mu[k]? = some (some (mA b m))) : ls[k]? = some b := by
  obtain ⟨F, o⟩ := h.own
  obtain ⟨a, ea, eq⟩ := o.cell k _ hk
  rw [ea, eq.1]
/-- xs[i], a value; an opened item -/
theorem rv_ixN (oc : Option Addr) {z : Int} (hk : Mu[k]? = some (some (pin oc (mLI is)))) (hi : ixN is.length z = some p) (hv : is[p]? = some (.val tv')) : Rv K (rIxL K) Mu Mu (.cell k) (vI z) (.val tv') := rv_same fun B S ls H x y Q hs ha hb q => by
  obtain ⟨a, e1, e2⟩ := ha
  obtain ⟨a', vs, g, f1, f2, f3, f4⟩ := hs.node hk
  rw [e1] at f1
  cases f1
  subst e2
  obtain ⟨v, ev⟩ : ∃ v, vs[p]? = some v := ⟨vs[p]'(by rw [f3]; exact (List.getElem?_eq_some_iff.mp hv).1), List.getElem?_eq_getElem _⟩
  obtain ⟨f, _, ht⟩ := f4 p v _ ev hv
  refine ⟨a, vs, z, v, rfl, hb, SqL.of f2.1, ?_, q v ht⟩
  unfold atI
  rw [f3, hi]
  exact ev
theorem rv_ixA (oc : Option Addr) {z : Int} (hk : Mu[k]? = some (some (pin oc (mLI is)))) (hi : ixN is.length z = some p) (hv : is[p]? = some (.at_ b)) (hn : Mu[n]? = some (some (mA b m))) : Rv K (rIxL K) Mu Mu (.cell k) (vI z) (.cell n) := rv_same fun B S ls H x y Q hs ha hb q => by
  obtain ⟨a, e1, e2⟩ := ha
  obtain ⟨a', vs, g, f1, f2, f3, f4⟩ := hs.node hk
  rw [e1] at f1
  cases f1
  subst e2
  obtain ⟨v, ev⟩ : ∃ v, vs[p]? = some v := ⟨vs[p]'(by rw [f3]; exact (List.getElem?_eq_some_iff.mp hv).1), List.getElem?_eq_getElem _⟩
  obtain ⟨f, _, ht⟩ := f4 p v _ ev hv
  refine ⟨a, vs, z, v, rfl, hb, SqL.of f2.1, ?_, q v ⟨b, hs.rootA hn, ht⟩⟩
  unfold atI
  rw [f3, hi]
  exact ev
/-! ### instances that stand -/
def oT (cn : Str) (ns : List Str) (ts : List TV) : TV := ⟨fun K S v => ∃ a dx vs, v = .ref a ∧ S a = some (.ins (He.ga K cn) dx (ns.zip vs)) ∧ S dx = some (.own a) ∧ ns.length = vs.length ∧ AllT K S vs ts,
  fun h ⟨a, dx, vs, e1, e2, e3, e4, e5⟩ => ⟨a, dx, vs, e1, h _ _ e2, h _ _ e3, e4, e5.mono h⟩⟩
def FrzI : IV → TV → Prop
  | .val t, t' => t = t'
  | .own m, t' => Frz m t'
  | .at_ _, _ => False
theorem frz_items {S S' H : Hp} {vs : List V} {g : Nat → FP} {ts : List TV} (h : AllI K S H vs is g) (fz : Paired FrzI is ts) (s1 : Same S S') (hf : ∀ i b, g i b → S' b = H b) : AllT K S' vs ts := by
  have key : ∀ (i : Nat) (v : V) (t : TV), vs[i]? = some v → ts[i]? = some t → t.p K S' v := fun i v t ev et => by
    obtain ⟨s, es, fs⟩ := Paired.get2 fz et
    have q := h.at_ i v s ev es
    cases s with
    | val t' =>
      have fs : t' = t := fs
      subst fs
      exact t'.mono s1 q.2
    | own m =>
      obtain ⟨a, e, q⟩ := q
      subst e
      exact fs q s1 fun b z => hf i b z
    | at_ a => exact fs.elim
  have hl : vs.length = ts.length := by rw [h.len, Paired.length fz]
  clear h fz hf
  induction vs generalizing ts with
  | nil =>
    cases ts with
    | nil => exact .nil
    | cons t ts => simp at hl
  | cons v vs ih =>
    cases ts with
    | nil => simp at hl
    | cons t ts => exact .cons (key 0 v t rfl rfl) (ih (fun i v' t' a1 a2 => key (i + 1) v' t' (by simpa using a1) (by simpa using a2)) (by simpa using hl))
theorem frz_O {cn : Str} {ns : List Str} {ts : List TV} (fz : Paired FrzI is ts) : Frz (mO cn ns is) (oT cn ns ts) := fun ⟨vs, y, g, q1, q2, q3, q4⟩ s1 hf => by
  obtain ⟨dx, e1, e2, e3, e4, e5⟩ := q1
  exact ⟨_, dx, vs, rfl, (hf _ ((q3 _).mpr (.inl rfl))).trans e1, (hf _ ((q3 _).mpr (.inr (.inl ((e5 _).mpr rfl))))).trans e2, e4, frz_items q2 fz s1 fun i b z => hf b ((q3 b).mpr (.inr (.inr ⟨i, z⟩)))⟩
theorem frz_LI {ts : List TV} (fz : Paired FrzI is ts) : Frz (mLI is) (lstT ts) := fun ⟨vs, y, g, q1, q2, q3, q4⟩ s1 hf =>
  ⟨_, vs, rfl, (hf _ ((q3 _).mpr (.inl rfl))).trans q1.1, q1.2.1, frz_items q2 fz s1 fun i b z => hf b ((q3 b).mpr (.inr (.inr ⟨i, z⟩)))⟩
/-! ### fields -/
def fldI : List Str → Str → Option Nat
  | [], _ => none
  | n :: ns, f => if n = f then some 0 else (fldI ns f).map (· + 1)
theorem zip_lookup {f : Str} : ∀ {ns : List Str} {vs : List V} {p : Nat}, fldI ns f = some p → (ns.zip vs).lookup f = vs[p]?
  | [], _, _, h => nomatch h
  | n :: ns, [], p, h => by simp [List.lookup]
  | n :: ns, v :: vs, p, h => by
    unfold fldI at h
    by_cases e : n = f
    · rw [if_pos e] at h
      cases h
      subst e
      simp [List.lookup]
    · rw [if_neg e] at h
      obtain ⟨p', h1, h2⟩ := Option.map_eq_some_iff.mp h
      subst h2
      have hb : (f == n) = false := by simpa using fun z : f = n => e z.symm
      rw [List.zip_cons_cons]
      simp only [List.lookup, hb]
      rw [zip_lookup h1]
      simp
theorem zip_lookup_none {f : Str} : ∀ {ns : List Str} {vs : List V}, fldI ns f = none → (ns.zip vs).lookup f = none
  | [], _, _ => rfl
  | n :: ns, [], h => by simp [List.lookup]
  | n :: ns, v :: vs, h => by
    unfold fldI at h
    by_cases e : n = f
    · rw [if_pos e] at h
      cases h
    · rw [if_neg e] at h
      have hb : (f == n) = false := by simpa using fun z : f = n => e z.symm
      rw [List.zip_cons_cons]
      simp only [List.lookup, hb]
      exact zip_lookup_none (by simpa using h)
theorem putF_new {f : Str} {v : V} : ∀ {ns : List Str} {vs : List V}, fldI ns f = none → ns.length = vs.length → putF f v (ns.zip vs) = (ns ++ [f]).zip (vs ++ [v])
  | [], [], _, _ => rfl
  | [], _ :: _, _, h => nomatch h
  | _ :: _, [], _, h => nomatch h
  | n :: ns, w :: vs, h, hl => by
    unfold fldI at h
    by_cases e : n = f
    · rw [if_pos e] at h
      cases h
    · rw [if_neg e] at h
      rw [List.zip_cons_cons, List.cons_append, List.cons_append, List.zip_cons_cons]
      show (if n = f then _ else _) = _
      rw [if_neg e, putF_new (by simpa using h) (by simpa using hl)]
theorem putF_old {f : Str} {v : V} : ∀ {ns : List Str} {vs : List V} {p : Nat}, fldI ns f = some p → ns.length = vs.length → putF f v (ns.zip vs) = ns.zip (vs.set p v)
  | [], _, _, h, _ => nomatch h
  | _ :: _, [], _, _, h => nomatch h
  | n :: ns, w :: vs, p, h, hl => by
    unfold fldI at h
    by_cases e : n = f
    · rw [if_pos e] at h
      cases h
      rw [List.zip_cons_cons]
      show (if n = f then _ else _) = _
      rw [if_pos e]
      rfl
    · rw [if_neg e] at h
      obtain ⟨p', h1, h2⟩ := Option.map_eq_some_iff.mp h
      subst h2
      rw [List.zip_cons_cons]
      show (if n = f then _ else _) = _
      rw [if_neg e, putF_old h1 (by simpa using hl)]
      rfl
theorem ev_fldO {cn f : Str} {ns : List Str} {ts : List TV} (h : EvV K te G Mu Mu1 (.val (oT cn ns ts))) (hc : Cls K (He.ga K cn)) (hn : NoAttr K (He.ga K cn) f) (hf : fldI ns f = some p) (hv : ts[p]? = some tv') : EvV K (tFld K te f) G Mu Mu1 (.val tv') := fun B σ S ls H Q sl hs q =>
  h B σ S ls H _ sl hs fun v S1 l1 H1 a1 b1 c1 d1 => by
    obtain ⟨a, dx, vs, e1, e2, e3, e4, e5⟩ := d1
    obtain ⟨w, f1, f2⟩ := Paired.get2 e5 hv
    exact ⟨a, _, dx, _, w, e1, c1.ex _ _ e2, hc, hn, (zip_lookup hf).trans f1, q w S1 l1 H1 a1 b1 c1 f2⟩
theorem ev_fldC (oc : Option Addr) {cn f : Str} {ns : List Str} (h : EvV K te G Mu Mu1 (.cell k)) (hk : Mu1[k]? = some (some (pin oc (mO cn ns is)))) (hc : Cls K (He.ga K cn)) (hn : NoAttr K (He.ga K cn) f) (hf : fldI ns f = some p) (hv : is[p]? = some (.val tv')) : EvV K (tFld K te f) G Mu Mu1 (.val tv') := fun B σ S ls H Q sl hs q =>
  h B σ S ls H _ sl hs fun v S1 l1 H1 a1 b1 c1 d1 => by
    obtain ⟨a, e1, e2⟩ := d1
    obtain ⟨a', vs, y, f1, f2, f3, f4⟩ := c1.node hk
    rw [e1] at f1
    cases f1
    obtain ⟨dx, g1, g2, g3, g4, g5⟩ := f2
    obtain ⟨w, ew⟩ : ∃ w, vs[p]? = some w := ⟨vs[p]'(by rw [f3]; exact (List.getElem?_eq_some_iff.mp hv).1), List.getElem?_eq_getElem _⟩
    obtain ⟨_, _, ht⟩ := f4 p w _ ew hv
    exact ⟨a, _, dx, _, w, e2, g1, hc, hn, (zip_lookup hf).trans ew, q w S1 l1 H1 a1 b1 c1 ht⟩
theorem ev_fldA (oc : Option Addr) {cn f : Str} {ns : List Str} (h : EvV K te G Mu Mu1 (.cell k)) (hk : Mu1[k]? = some (some (pin oc (mO cn ns is)))) (hc : Cls K (He.ga K cn)) (hn : NoAttr K (He.ga K cn) f) (hf : fldI ns f = some p) (hv : is[p]? = some (.at_ b)) (hm : Mu1[n]? = some (some (mA b m))) : EvV K (tFld K te f) G Mu Mu1 (.cell n) := fun B σ S ls H Q sl hs q =>
  h B σ S ls H _ sl hs fun v S1 l1 H1 a1 b1 c1 d1 => by
    obtain ⟨a, e1, e2⟩ := d1
    obtain ⟨a', vs, y, f1, f2, f3, f4⟩ := c1.node hk
    rw [e1] at f1
    cases f1
    obtain ⟨dx, g1, g2, g3, g4, g5⟩ := f2
    obtain ⟨w, ew⟩ : ∃ w, vs[p]? = some w := ⟨vs[p]'(by rw [f3]; exact (List.getElem?_eq_some_iff.mp hv).1), List.getElem?_eq_getElem _⟩
    obtain ⟨_, _, ht⟩ := f4 p w _ ew hv
    exact ⟨a, _, dx, _, w, e2, g1, hc, hn, (zip_lookup hf).trans ew, q w S1 l1 H1 a1 b1 c1 ⟨b, c1.rootA hm, ht⟩⟩
/-! ### a node's object written: the values vs become vs', one item s at the place p (a value), or behind the last one -/
theorem HS.nodeW {B : Bs} {S H : Hp} {ls : List Addr} {oc : Option Addr} {sh' : Shp} {a : Addr} {o : HO} (h : HS K B S ls Mu H) (hk : Mu[k]? = some (some (pin oc (mN sh is)))) (ea : ls[k]? = some a) (is' : List IV) (c : Option Nat)
    (hc : ∀ n, c = some n → n ≠ k ∧ n < Mu.length)
    (step : ∀ vs y g, sh.ok K H a vs y → AllI K S H vs is g → (∀ b, y b → b ≠ a) → ∃ vs', sh'.ok K (upd H a o) a vs' y ∧ vs'.length = is'.length ∧ ∃ φ : Nat → Option (Nat ⊕ Unit),
      (∀ i v s, vs'[i]? = some v → is'[i]? = some s → (∃ j, φ i = some (.inl j) ∧ vs[j]? = some v ∧ is[j]? = some s) ∨ (φ i = some (.inr ()) ∧ ∃ n m, c = some n ∧ Mu[n]? = some (some m) ∧ s = .own m ∧ ∃ b, ls[n]? = some b ∧ v = .ref b) ∨ (φ i = none ∧ ∃ t : TV, s = .val t ∧ t.p K S v)) ∧ (∀ i z, φ i = some z → i < is'.length) ∧ ∀ i i' z, φ i = some z → φ i' = some z → i = i') :
    HS K B S ls (match c with | none => Mu.set k (some (pin oc (mN sh' is'))) | some n => (Mu.set k (some (pin oc (mN sh' is')))).set n none) (upd H a o) := by
  obtain ⟨F, w⟩ := h.own
  obtain ⟨a', e1, q⟩ := w.cell k _ hk
  rw [ea] at e1
  cases e1
  obtain ⟨ep, vs, y, g, q1, q2, q3, q4⟩ := pin_q.mp q
  have hlt := (List.getElem?_eq_some_iff.mp hk).1
  have ya : ∀ b, y b → b ≠ a := fun b z e => sh.nx q1 (e ▸ z)
  obtain ⟨vs', r1, r2, φ, r3, r4, r5⟩ := step vs y g q1 q2 ya
  have Fka : F k a := (q3 a).mpr (.inl rfl)
  have oth : ∀ j b, j ≠ k → F j b → b ≠ a := fun j b hj z e => hj (w.dis j k b z (e ▸ Fka))
  -- the new footprint: the root, y, what φ takes
  let g' : Nat → FP := fun i b => match φ i with
    | some (.inl j) => g j b
    | some (.inr _) => ∃ n, c = some n ∧ F n b
    | none => False
  have gk : ∀ i b, g' i b → (∃ j, φ i = some (.inl j) ∧ g j b) ∨ (φ i = some (.inr ()) ∧ ∃ n, c = some n ∧ F n b) := fun i b z => by
    have z : (match φ i with
      | some (.inl j) => g j b
      | some (.inr _) => ∃ n, c = some n ∧ F n b
      | none => False) := z
    cases e : φ i with
    | none =>
      rw [e] at z
      exact z.elim
    | some u =>
      rw [e] at z
      cases u with
      | inl j => exact .inl ⟨j, rfl, z⟩
      | inr u => exact .inr ⟨rfl, z⟩
  let f' : FP := fun b => b = a ∨ y b ∨ ∃ i, g' i b
  have fF : ∀ b, f' b → F k b ∨ ∃ n, c = some n ∧ F n b := fun b z => by
    rcases z with z | z | ⟨i, z⟩
    · exact .inl ((q3 b).mpr (.inl z))
    · exact .inl ((q3 b).mpr (.inr (.inl z)))
    · rcases gk i b z with ⟨j, _, z⟩ | ⟨_, n, e, z⟩
      · exact .inl ((q3 b).mpr (.inr (.inr ⟨j, z⟩)))
      · exact .inr ⟨n, e, z⟩
  have gna : ∀ i b, g' i b → b ≠ a ∧ ¬ y b := fun i b z => by
    rcases gk i b z with ⟨j, _, z⟩ | ⟨_, n, e, z⟩
    · exact q4 j b z
    · obtain ⟨hn, _⟩ := hc n e
      exact ⟨oth n b hn z, fun yb => hn (w.dis n k b z ((q3 b).mpr (.inr (.inl yb))))⟩
  have locH : ∀ b, b ≠ a → upd H a o b = H b := fun b z => upd_ne z
  have newq : (pin oc (mN sh' is')).q K S (upd H a o) a f' := pin_q.mpr ⟨ep, vs', y, g', r1, ⟨r2, fun i v s a1 a2 => by
    rcases r3 i v s a1 a2 with ⟨j, e, b1, b2⟩ | ⟨e, n, m, ec, em, es, b, eb, ev⟩ | ⟨e, t, es, ht⟩
    · have eg : g' i = g j := by
        funext b
        show (match φ i with
          | some (.inl j) => g j b
          | some (.inr _) => ∃ n, c = some n ∧ F n b
          | none => False) = _
        rw [e]
      rw [eg]
      exact IV.loc (fun b z => locH b (q4 j b z).1) (q2.at_ j v s b1 b2)
    · have eg : g' i = F n := by
        funext b
        show (match φ i with
          | some (.inl j) => g j b
          | some (.inr _) => ∃ n, c = some n ∧ F n b
          | none => False) = _
        rw [e]
        exact propext ⟨fun ⟨n', e', z⟩ => by rw [ec] at e'; cases e'; exact z, fun z => ⟨n, ec, z⟩⟩
      rw [eg, es]
      obtain ⟨b', eb', hm⟩ := w.cell n m em
      rw [eb] at eb'
      cases eb'
      exact ⟨b, ev, m.loc (fun b z => locH b (oth n b (hc n ec).1 z)) hm⟩
    · have eg : ∀ b, ¬ g' i b := fun b z => by
        rcases gk i b z with ⟨j, e', _⟩ | ⟨e', _⟩ <;> rw [e] at e' <;> cases e'
      rw [es]
      exact ⟨eg, ht⟩, fun i b z => by
    rcases gk i b z with ⟨j, e', _⟩ | ⟨e', _⟩ <;> exact r4 i _ e', fun i i' b z z' => by
    rcases gk i b z with ⟨j, e, z⟩ | ⟨e, n, ec, z⟩ <;> rcases gk i' b z' with ⟨j', e', z'⟩ | ⟨e', n', ec', z'⟩
    · have := q2.dis j j' b z z'
      subst this
      exact r5 i i' _ e e'
    · exact absurd (w.dis n' k b z' ((q3 b).mpr (.inr (.inr ⟨j, z⟩)))) (hc n' ec').1
    · exact absurd (w.dis n k b z ((q3 b).mpr (.inr (.inr ⟨j', z'⟩)))) (hc n ec).1
    · exact r5 i i' _ e e'⟩, fun b => Iff.rfl, gna⟩
  refine ⟨fun b u e => ?_, h.s0, h.new, fun b u e hb => ?_, h.c0, fun b hb => ?_, by cases c <;> simp [h.len], fun j b => if j = k then f' b else F j b ∧ c ≠ some j, fun i j b hi hj => ?_, fun i b hi => ?_, fun j m2 e => ?_, fun j b z => ?_, fun j b z => ?_, fun j b z => ?_⟩
  · rw [locH b fun z => by rw [z, w.off k a Fka] at e; cases e]
    exact h.ex b u e
  · rw [locH b fun z => ?_]
    · exact h.fr b u e hb
    · subst z
      rcases w.from_ k b Fka with q | q
      · rw [q] at e
        cases e
      · exact hb q
  · by_cases hba : b = a
    · exact ⟨o, by rw [hba]; exact upd_same⟩
    · rw [locH b hba]
      exact h.c1 b hb
  · by_cases ei : i = k <;> by_cases ej : j = k
    · rw [ei, ej]
    · rw [if_pos ei] at hi
      rw [if_neg ej] at hj
      rcases fF b hi with q | ⟨n, e, q⟩
      · exact absurd (w.dis j k b hj.1 q) ej
      · have := w.dis j n b hj.1 q
        exact absurd (this ▸ e) hj.2
    · rw [if_neg ei] at hi
      rw [if_pos ej] at hj
      rcases fF b hj with q | ⟨n, e, q⟩
      · exact absurd (w.dis i k b hi.1 q) ei
      · have := w.dis i n b hi.1 q
        exact absurd (this ▸ e) hi.2
    · rw [if_neg ei] at hi
      rw [if_neg ej] at hj
      exact w.dis i j b hi.1 hj.1
  · have ll : (match c with | none => Mu.set k (some (pin oc (mN sh' is'))) | some n => (Mu.set k (some (pin oc (mN sh' is')))).set n none).length = Mu.length := by cases c <;> simp
    rw [ll]
    by_cases ei : i = k
    · rw [ei]
      exact hlt
    · rw [if_neg ei] at hi
      exact w.lt i b hi.1
  · have hget : (Mu.set k (some (pin oc (mN sh' is'))))[j]? = some (some m2) ∧ c ≠ some j := by
      cases c with
      | none => exact ⟨e, fun z => nomatch z⟩
      | some n =>
        by_cases hn : j = n
        · subst hn
          have e : ((Mu.set k (some (pin oc (mN sh' is')))).set j none)[j]? = some (some m2) := e
          rw [List.getElem?_set_self (by rw [List.length_set]; exact (hc j rfl).2)] at e
          cases e
        · have e : ((Mu.set k (some (pin oc (mN sh' is')))).set n none)[j]? = some (some m2) := e
          rw [List.getElem?_set_ne (Ne.symm hn)] at e
          exact ⟨e, fun z => hn (Option.some.inj z).symm⟩
    obtain ⟨e, hcj⟩ := hget
    by_cases hj : j = k
    · subst hj
      rw [List.getElem?_set_self hlt] at e
      obtain rfl : pin oc (mN sh' is') = m2 := by simpa using e
      refine ⟨a, ea, ?_⟩
      have eg : (fun b => if j = j then f' b else F j b ∧ c ≠ some j) = f' := by
        funext b
        rw [if_pos rfl]
      show (pin oc (mN sh' is')).q K S (upd H a o) a (fun b => if j = j then f' b else F j b ∧ c ≠ some j)
      rw [eg]
      exact newq
    · rw [List.getElem?_set_ne (Ne.symm hj)] at e
      obtain ⟨d, f1, f2⟩ := w.cell j m2 e
      refine ⟨d, f1, ?_⟩
      have eg : (fun b => if j = k then f' b else F j b ∧ c ≠ some j) = F j := by
        funext b
        rw [if_neg hj]
        exact propext ⟨fun z => z.1, fun z => ⟨z, hcj⟩⟩
      show m2.q K S (upd H a o) d (fun b => if j = k then f' b else F j b ∧ c ≠ some j)
      rw [eg]
      exact m2.loc (fun b z => locH b (oth j b hj z)) f2
  · by_cases hj : j = k
    · rw [if_pos hj] at z
      rcases fF b z with q | ⟨n, _, q⟩ <;> exact w.off _ b q
    · rw [if_neg hj] at z
      exact w.off j b z.1
  · by_cases hba : b = a
    · exact ⟨o, by rw [hba]; exact upd_same⟩
    · rw [locH b hba]
      by_cases hj : j = k
      · rw [if_pos hj] at z
        rcases fF b z with q | ⟨n, _, q⟩ <;> exact w.inH _ b q
      · rw [if_neg hj] at z
        exact w.inH j b z.1
  · by_cases hj : j = k
    · rw [if_pos hj] at z
      rcases fF b z with q | ⟨n, _, q⟩ <;> exact w.from_ _ b q
    · rw [if_neg hj] at z
      exact w.from_ j b z.1
end
end TL

/-! TL: stores into nodes, instances made, methods called. -/
namespace TL
open PySem L2
section
variable {K : PySem.W.Frag} {B : Bs} {S H : Hp} {ls : List Addr} {Mu : Mm} {k n p : Nat} {sh sh' : Shp} {is : List IV} {oc : Option Addr} {a : Addr} {o : HO} {t : TV} {v : V} {m : MV}
/-- a value behind the last item -/
theorem HS.nodeApp (h : HS K B S ls Mu H) (hk : Mu[k]? = some (some (pin oc (mN sh is)))) (ea : ls[k]? = some a) (ht : t.p K S v) (st : ∀ vs y, vs.length = is.length → sh.ok K H a vs y → (∀ b, y b → b ≠ a) → sh'.ok K (upd H a o) a (vs ++ [v]) y) : HS K B S ls (Mu.set k (some (pin oc (mN sh' (is ++ [.val t]))))) (upd H a o) := by
  refine h.nodeW hk ea (is ++ [.val t]) none (fun n e => nomatch e) fun vs y g q1 q2 q3 => ⟨vs ++ [v], st vs y q2.len q1 q3, by rw [List.length_append, List.length_append, q2.len]; rfl, fun i => if i < is.length then some (.inl i) else none, fun i u s a1 a2 => ?_, fun i z e => ?_, fun i i' z e e' => ?_⟩
  · by_cases hi : i < is.length
    · rw [List.getElem?_append_left (by rw [q2.len]; exact hi)] at a1
      rw [List.getElem?_append_left hi] at a2
      exact .inl ⟨i, if_pos hi, a1, a2⟩
    · rw [List.getElem?_append_right (by rw [q2.len]; omega), q2.len] at a1
      rw [List.getElem?_append_right (by omega)] at a2
      by_cases h0 : i - is.length = 0
      · rw [h0] at a1 a2
        cases a1
        cases a2
        exact .inr (.inr ⟨if_neg hi, t, rfl, ht⟩)
      · rw [List.getElem?_eq_none (by simp; omega)] at a2
        cases a2
  · dsimp only at e
    split at e
    · rw [List.length_append]
      omega
    · cases e
  · dsimp only at e e'
    split at e <;> split at e' <;> simp at e e'
    rw [← e'] at e
    simpa using e
/-- a cell behind the last item -/
theorem HS.nodeAppC (h : HS K B S ls Mu H) (hk : Mu[k]? = some (some (pin oc (mN sh is)))) (ea : ls[k]? = some a) (hn : n ≠ k) (en : Mu[n]? = some (some m)) {b : Addr} (eb : ls[n]? = some b) (st : ∀ vs y, vs.length = is.length → sh.ok K H a vs y → (∀ b, y b → b ≠ a) → sh'.ok K (upd H a o) a (vs ++ [.ref b]) y) : HS K B S ls ((Mu.set k (some (pin oc (mN sh' (is ++ [.own m]))))).set n none) (upd H a o) := by
  refine h.nodeW hk ea (is ++ [.own m]) (some n) (fun n' e => by cases e; exact ⟨hn, (List.getElem?_eq_some_iff.mp en).1⟩) fun vs y g q1 q2 q3 => ⟨vs ++ [.ref b], st vs y q2.len q1 q3, by rw [List.length_append, List.length_append, q2.len]; rfl, fun i => if i < is.length then some (.inl i) else if i = is.length then some (.inr ()) else none, fun i u s a1 a2 => ?_, fun i z e => ?_, fun i i' z e e' => ?_⟩
  · by_cases hi : i < is.length
    · rw [List.getElem?_append_left (by rw [q2.len]; exact hi)] at a1
      rw [List.getElem?_append_left hi] at a2
      exact .inl ⟨i, if_pos hi, a1, a2⟩
    · rw [List.getElem?_append_right (by rw [q2.len]; omega), q2.len] at a1
      rw [List.getElem?_append_right (by omega)] at a2
      by_cases h0 : i - is.length = 0
      · rw [h0] at a1 a2
        cases a1
        cases a2
        refine .inr (.inl ⟨?_, n, m, rfl, en, rfl, b, eb, rfl⟩)
        dsimp only
        rw [if_neg hi, if_pos (by omega)]
      · rw [List.getElem?_eq_none (by simp; omega)] at a2
        cases a2
  · dsimp only at e
    rw [List.length_append, List.length_singleton]
    split at e
    · omega
    · split at e
      · omega
      · cases e
  · dsimp only at e e'
    split at e <;> split at e'
    · rw [← e'] at e
      simpa using e
    · split at e' <;> simp at e e'
      rw [← e'] at e
      cases e
    · split at e <;> simp at e e'
      rw [← e] at e'
      cases e'
    · split at e <;> split at e' <;> simp at e e'
      omega
/-- an item replaced by a value -/
theorem HS.nodeSet (h : HS K B S ls Mu H) (hk : Mu[k]? = some (some (pin oc (mN sh is)))) (ea : ls[k]? = some a) (ht : t.p K S v) (st : ∀ vs y, vs.length = is.length → sh.ok K H a vs y → (∀ b, y b → b ≠ a) → sh'.ok K (upd H a o) a (vs.set p v) y) : HS K B S ls (Mu.set k (some (pin oc (mN sh' (is.set p (.val t)))))) (upd H a o) := by
  refine h.nodeW hk ea (is.set p (.val t)) none (fun n e => nomatch e) fun vs y g q1 q2 q3 => ⟨vs.set p v, st vs y q2.len q1 q3, by rw [List.length_set, List.length_set, q2.len], fun i => if i < is.length ∧ i ≠ p then some (.inl i) else none, fun i u s a1 a2 => ?_, fun i z e => ?_, fun i i' z e e' => ?_⟩
  · have hi : i < is.length := by
      have := (List.getElem?_eq_some_iff.mp a2).1
      rwa [List.length_set] at this
    by_cases hp : i = p
    · subst hp
      rw [List.getElem?_set_self (by rw [q2.len]; exact hi)] at a1
      rw [List.getElem?_set_self hi] at a2
      cases a1
      cases a2
      exact .inr (.inr ⟨if_neg fun z => z.2 rfl, t, rfl, ht⟩)
    · rw [List.getElem?_set_ne (Ne.symm hp)] at a1 a2
      exact .inl ⟨i, if_pos ⟨hi, hp⟩, a1, a2⟩
  · dsimp only at e
    rw [List.length_set]
    split at e
    · rename_i hh
      exact hh.1
    · cases e
  · dsimp only at e e'
    split at e <;> split at e' <;> simp at e e'
    rw [← e'] at e
    simpa using e
end
section
variable {ω : Type} {W : Xw} {np : Nat} {κ : ω → OS} {mm : Mr ω} {u : TS} {K : PySem.W.Frag} {G : Gm} {Mu Mu1 Mu2 Mu3 : Mm} {te to ti : TE} {ta : TA} {k i n p : Nat} {is : List IV} {m : MV} {t : TV} {ss : List SV}
/-! ### fields stored -/
theorem eb_fldN (oc : Option Addr) {cn f : Str} {ns : List Str} (he : EvV K te G Mu Mu1 (.val t)) (ho : EvV K to G Mu1 Mu2 (.cell k)) (hk : Mu2[k]? = some (some (pin oc (mO cn ns is)))) (hc : Cls K (He.ga K cn)) (hn : NoAttr K (He.ga K cn) f) (hf : fldI ns f = none) (hl : Nat.blt ns.length 1000 = true)
    (r : EvB K W np u G (Mu2.set k (some (pin oc (mO cn (ns ++ [f]) (is ++ [.val t]))))) κ mm) : EvB K W np (tSeq (sFld K to te f) u) G Mu κ mm := fun B σ S ls H D w hn' sl hs e q =>
  he B σ S ls H _ sl hs fun y S1 l1 H1 a1 b1 c1 d1 => ho B σ S1 l1 H1 _ (sl.mono a1 b1) c1 fun x S2 l2 H2 a2 b2 c2 d2 => by
    obtain ⟨a, ea, ex⟩ := d2
    obtain ⟨a', vs, z, f1, ⟨dx, g1, g2, g3, g4, g5⟩, f3, _⟩ := c2.node hk
    rw [ea] at f1
    cases f1
    have hl := Nat.le_of_ble_eq_true hl
    refine ⟨a, _, dx, _, ex, g1, hc, hn, by rw [List.length_zip]; omega, ?_⟩
    rw [putF_new hf g4]
    refine r B σ S2 l2 _ D w hn' ((sl.mono a1 b1).mono a2 b2) (c2.nodeApp (sh' := shO cn (ns ++ [f])) hk ea (t.mono a2 d1) fun vs' y' hl' ok hy => ?_) e (q.mono (a1.trans a2) (b1.trans b2))
    obtain ⟨dx', k1, k2, k3, k4, k5⟩ := ok
    rw [g1] at k1
    have k1 := Option.some.inj k1
    injection k1 with _ k1 k1'
    subst k1
    have ev : vs = vs' := by
      have h1 : (ns.zip vs).map (·.2) = vs := List.map_snd_zip (by omega)
      have h2 : (ns.zip vs').map (·.2) = vs' := List.map_snd_zip (by omega)
      rw [← h1, ← h2, k1']
    subst ev
    exact ⟨dx, upd_same, by rw [upd_ne k3]; exact k2, k3, by simp [g4], k5⟩
theorem eb_fldNC (oc : Option Addr) {cn f : Str} {ns : List Str} (he : EvV K te G Mu Mu1 (.cell n)) (ho : EvV K to G Mu1 Mu2 (.cell k)) (hk : Mu2[k]? = some (some (pin oc (mO cn ns is)))) (en : Mu2[n]? = some (some m)) (hnk : n ≠ k) (hc : Cls K (He.ga K cn)) (hn : NoAttr K (He.ga K cn) f) (hf : fldI ns f = none) (hl : Nat.blt ns.length 1000 = true)
    (r : EvB K W np u G ((Mu2.set k (some (pin oc (mO cn (ns ++ [f]) (is ++ [.own m]))))).set n none) κ mm) : EvB K W np (tSeq (sFld K to te f) u) G Mu κ mm := fun B σ S ls H D w hn' sl hs e q =>
  he B σ S ls H _ sl hs fun y S1 l1 H1 a1 b1 c1 d1 => ho B σ S1 l1 H1 _ (sl.mono a1 b1) c1 fun x S2 l2 H2 a2 b2 c2 d2 => by
    obtain ⟨a, ea, ex⟩ := d2
    obtain ⟨b, eb, ey⟩ := d1
    subst ey
    obtain ⟨a', vs, z, f1, ⟨dx, g1, g2, g3, g4, g5⟩, f3, _⟩ := c2.node hk
    rw [ea] at f1
    cases f1
    have hl := Nat.le_of_ble_eq_true hl
    refine ⟨a, _, dx, _, ex, g1, hc, hn, by rw [List.length_zip]; omega, ?_⟩
    rw [putF_new hf g4]
    refine r B σ S2 l2 _ D w hn' ((sl.mono a1 b1).mono a2 b2) (c2.nodeAppC (sh' := shO cn (ns ++ [f])) hk ea hnk en (b2.get eb) fun vs' y' hl' ok hy => ?_) e (q.mono (a1.trans a2) (b1.trans b2))
    obtain ⟨dx', k1, k2, k3, k4, k5⟩ := ok
    rw [g1] at k1
    have k1 := Option.some.inj k1
    injection k1 with _ k1 k1'
    subst k1
    have ev : vs = vs' := by
      have h1 : (ns.zip vs).map (·.2) = vs := List.map_snd_zip (by omega)
      have h2 : (ns.zip vs').map (·.2) = vs' := List.map_snd_zip (by omega)
      rw [← h1, ← h2, k1']
    subst ev
    exact ⟨dx, upd_same, by rw [upd_ne k3]; exact k2, k3, by simp [g4], k5⟩
theorem eb_fldS (oc : Option Addr) {cn f : Str} {ns : List Str} (he : EvV K te G Mu Mu1 (.val t)) (ho : EvV K to G Mu1 Mu2 (.cell k)) (hk : Mu2[k]? = some (some (pin oc (mO cn ns is)))) (hc : Cls K (He.ga K cn)) (hn : NoAttr K (He.ga K cn) f) (hf : fldI ns f = some p) (hl : Nat.blt ns.length 1000 = true)
    (r : EvB K W np u G (Mu2.set k (some (pin oc (mO cn ns (is.set p (.val t)))))) κ mm) : EvB K W np (tSeq (sFld K to te f) u) G Mu κ mm := fun B σ S ls H D w hn' sl hs e q =>
  he B σ S ls H _ sl hs fun y S1 l1 H1 a1 b1 c1 d1 => ho B σ S1 l1 H1 _ (sl.mono a1 b1) c1 fun x S2 l2 H2 a2 b2 c2 d2 => by
    obtain ⟨a, ea, ex⟩ := d2
    obtain ⟨a', vs, z, f1, ⟨dx, g1, g2, g3, g4, g5⟩, f3, _⟩ := c2.node hk
    rw [ea] at f1
    cases f1
    have hl := Nat.le_of_ble_eq_true hl
    refine ⟨a, _, dx, _, ex, g1, hc, hn, by rw [List.length_zip]; omega, ?_⟩
    rw [putF_old hf g4]
    refine r B σ S2 l2 _ D w hn' ((sl.mono a1 b1).mono a2 b2) (c2.nodeSet (sh' := shO cn ns) hk ea (t.mono a2 d1) fun vs' y' hl' ok hy => ?_) e (q.mono (a1.trans a2) (b1.trans b2))
    obtain ⟨dx', k1, k2, k3, k4, k5⟩ := ok
    rw [g1] at k1
    have k1 := Option.some.inj k1
    injection k1 with _ k1 k1'
    subst k1
    have ev : vs = vs' := by
      have h1 : (ns.zip vs).map (·.2) = vs := List.map_snd_zip (by omega)
      have h2 : (ns.zip vs').map (·.2) = vs' := List.map_snd_zip (by omega)
      rw [← h1, ← h2, k1']
    subst ev
    exact ⟨dx, upd_same, by rw [upd_ne k3]; exact k2, k3, by simp [g4], k5⟩
/-! ### lists of owned things: append, store -/
theorem eb_appN (oc : Option Addr) (ho : EvV K to G Mu Mu1 (.cell k)) {is1 : List IV} (hk1 : Mu1[k]? = some (some (pin oc (mLI is1)))) (he : EvV K te G Mu1 Mu2 (.cell n)) (hk : Mu2[k]? = some (some (pin oc (mLI is)))) (en : Mu2[n]? = some (some m)) (hnk : n ≠ k) (hz : is.length < sizeLine) (r : EvB K W np u G ((Mu2.set k (some (pin oc (mLI (is ++ [.own m]))))).set n none) κ mm) :
    EvB K W np (tSeq (tDrop (tBM K "list" rAppend to (tCons te tNil))) u) G Mu κ mm := fun B σ S ls H D w hn' sl hs e q =>
  ho B σ S ls H _ sl hs fun x S1 l1 H1 a1 b1 c1 d1 => by
    obtain ⟨a, ea, ex⟩ := d1
    subst ex
    obtain ⟨a', vs0, z0, f1, ⟨g1, g2, g3⟩, f3, _⟩ := c1.node hk1
    rw [ea] at f1
    cases f1
    refine ⟨.inl ⟨rfl, vs0, SqL.of g1⟩, ?_⟩
    refine he B σ S1 l1 H1 _ (sl.mono a1 b1) c1 fun y S2 l2 H2 a2 b2 c2 d2 => ?_
    obtain ⟨b, eb, ey⟩ := d2
    subst ey
    obtain ⟨a', vs, z, f1', ⟨k1, k2, k3⟩, f3', _⟩ := c2.node hk
    rw [b2.get ea] at f1'
    cases f1'
    refine ⟨a, vs, .ref b, rfl, rfl, k1, by rw [f3']; exact hz, ?_⟩
    refine r B σ S2 l2 _ D w hn' ((sl.mono a1 b1).mono a2 b2) (c2.nodeAppC (sh' := shL) hk (b2.get ea) hnk en eb fun vs' y' hl' ok hy => ?_) e (q.mono (a1.trans a2) (b1.trans b2))
    obtain ⟨j1, j2, j3⟩ := ok
    rw [k1] at j1
    cases j1
    refine ⟨upd_same, ?_, j3⟩
    rw [List.length_append, hl']
    exact hz
/-- a new instance, its attributes by __init__ -/
theorem HS.newI {B : Bs} {S H : Hp} {ls : List Addr} {cn : Str} (h : HS K B S ls Mu H) {x dx : Addr} (nx : H x = none) (nd : H dx = none) (ne : dx ≠ x) : HS K B S (ls ++ [x]) (Mu ++ [some (mO cn [] [])]) (upd (upd H dx (.own x)) x (.ins (He.ga K cn) dx [])) := by
  have h1 := h.loose (o := .own x) nd
  have nx1 : upd H dx (.own x) x = none := by rw [upd_ne (Ne.symm ne)]; exact nx
  have h2 := h1.loose (o := .ins (He.ga K cn) dx []) nx1
  obtain ⟨f1, f2, f3⟩ := h.fresh nx
  obtain ⟨g1, g2, g3⟩ := h.fresh nd
  obtain ⟨F, w⟩ := h2.own
  have hd : upd (upd H dx (.own x)) x (.ins (He.ga K cn) dx []) dx = some (.own x) := by rw [upd_ne ne]; exact upd_same
  obtain ⟨F0, w0⟩ := h.own
  have keep : ∀ k b, F0 k b → upd (upd H dx (.own x)) x (.ins (He.ga K cn) dx []) b = H b := fun k b z => by
    have n1 : b ≠ x := fun e => w0.free nx k (e ▸ z)
    have n2 : b ≠ dx := fun e => w0.free nd k (e ▸ z)
    rw [upd_ne n1, upd_ne n2]
  have w1 : Own K B S ls Mu (upd (upd H dx (.own x)) x (.ins (He.ga K cn) dx [])) F0 := ⟨w0.dis, w0.lt, fun k m e => by
    obtain ⟨a, e1, e2⟩ := w0.cell k m e
    exact ⟨a, e1, m.loc (fun b z => keep k b z) e2⟩, w0.off, fun k b z => by rw [keep k b z]; exact w0.inH k b z, w0.from_⟩
  refine h2.push0 (g := fun b => b = x ∨ b = dx) (a := x) ⟨[], fun b => b = dx, fun _ _ => False, ⟨dx, upd_same, hd, ne, rfl, fun b => Iff.rfl⟩, ⟨rfl, fun i v s e => by simp at e, fun i b z => z.elim, fun i j b z => z.elim⟩, fun b => ⟨fun z => z.elim .inl (fun z => .inr (.inl z)), fun z => z.elim .inl (fun z => z.elim .inr fun ⟨_, z⟩ => z.elim)⟩, fun i b z => z.elim⟩ (fun b z => ?_) (fun b z => ?_) (fun b z => ?_) ⟨F0, w1, fun k b z y => ?_⟩
  · rcases z with z | z <;> rw [z] <;> assumption
  · rcases z with z | z
    · rw [z]
      exact ⟨_, upd_same⟩
    · rw [z]
      exact ⟨_, hd⟩
  · rcases z with z | z
    · rw [z]
      exact .inl f2
    · rw [z]
      exact .inl g2
  · rcases y with y | y
    · exact w0.free nx k (y ▸ z)
    · exact w0.free nd k (y ▸ z)
variable {ι ω' : Type} {T : List XcD} {F : FS ι ω'} {x : ι} {w : ω'} {E : XK} {Es : L2.St → XK} {ks : List Nat} {ps : List (Option Addr)} {mc : MV} {Mp : Mm} {cn : Str}
/-- C(..): the instance is the first cell that __init__ is given -/
def tMakeS (C : Addr) (sp : Sp) (Es : L2.St → XK) (t : TA) : TE := fun σ H Q => t σ H fun vs H1 => ∀ x dx, H1 x = none → H1 dx = none → dx ≠ x → sp (.ref x :: vs) (upd (upd H1 dx (.own x)) x (.ins C dx [])) (fun v H2 => v = .non ∧ Q (.ref x) H2) (Es σ)
theorem make_call {B : Bs} {S H : Hp} {ls : List Addr} {vs : List V} {Q : VK} (c1 : HS K B S ls Mu1 H) (d1 : AllS K S ls vs ss) (hk : okKs ks Mu1.length = true) (hc : okC ks ss = true) (hi : F.ins x = .cell 0 :: (ss.map (renC ((Mu1.length) :: ks)))) (hC : selN none Mu1 ks = pinL ps (F.cells x).tail) (h0 : (F.cells x).head? = some (some (mO cn [] []))) (hP : okP ps (F.cells x).tail = true) (hm : F.m x = .ok w)
    {y dx : Addr} (ny : H y = none) (nd : H dx = none) (ne : dx ≠ y)
    (acc : ∀ C h, HS K B S (ls ++ [y]) (Mu1 ++ [some (mO cn [] [])]) h → (∀ S2 l2 M2 Mx H2, HS K ⟨h, S, selN 0 (ls ++ [y]) (Mu1.length :: ks), C⟩ S2 l2 (M2 ++ Mx) H2 → M2.length = (Mu1.length :: ks).length → HS K B S2 ((ls ++ [y]) ++ l2.drop (Mu1.length :: ks).length) (putAll (Mu1 ++ [some (mO cn [] [])]) (Mu1.length :: ks) (pinL (none :: ps) M2) ++ Mx) H2) →
      Acc K ⟨T, fun cls d _ H' => E cls d H'⟩ ⟨h, S, selN 0 (ls ++ [y]) (Mu1.length :: ks), C⟩ S (selN 0 (ls ++ [y]) (Mu1.length :: ks)) { nx := fun _ H' => Q .non H', rt := Q } (F.out x w)) :
    spT K T F (.ref y :: vs) (upd (upd H dx (.own y)) y (.ins (He.ga K cn) dx [])) Q E := by
  have h1 := c1.newI (cn := cn) ny nd ne
  have hk := Bool.and_eq_true_iff.mp (show (ks.all (fun k => Nat.blt k Mu1.length) && decide ks.Nodup) = true from hk)
  have nd' : ks.Nodup := of_decide_eq_true hk.2
  have lt : ∀ k ∈ ks, k < Mu1.length := fun k z => Nat.le_of_ble_eq_true (List.all_eq_true.mp hk.1 k z)
  have nin : Mu1.length ∉ ks := fun z => Nat.lt_irrefl _ (lt _ z)
  have sel : ∀ ks' : List Nat, (∀ k ∈ ks', k < Mu1.length) → selN none (Mu1 ++ [some (mO cn [] [])]) ks' = selN none Mu1 ks' := fun ks' l => by
    unfold selN
    refine List.map_congr_left fun k z => ?_
    rw [List.getElem?_append_left (l k z)]
  have okc : ∀ zs : List SV, okC ks zs = true → okC (Mu1.length :: ks) zs = true := by
    intro zs
    induction zs with
    | nil => intro _; rfl
    | cons z zs ih =>
      intro hz
      cases z with
      | val t => exact ih hz
      | cell j =>
        have o1 := Bool.and_eq_true_iff.mp (show ((posN ks j).isSome && okC ks zs) = true from hz)
        show ((posN (Mu1.length :: ks) j).isSome && okC (Mu1.length :: ks) zs) = true
        rw [ih o1.2]
        unfold posN
        by_cases e : Mu1.length = j
        · rw [if_pos e]
          rfl
        · rw [if_neg e]
          simp [o1.1]
  cases hcel : F.cells x with
  | nil =>
    rw [hcel] at h0
    cases h0
  | cons c0 cs =>
    rw [hcel] at h0 hC hP
    have e0 : c0 = some (mO cn [] []) := by simpa using h0
    subst e0
    refine sp_call (ss := .cell Mu1.length :: ss) (ks := Mu1.length :: ks) (ps := none :: ps) h1 (.cons ⟨y, by rw [← c1.len]; simp, rfl⟩ (AllS.mono (Same.refl _) ⟨[y], rfl⟩ d1)) ?_ ?_ ?_ ?_ ?_ hm fun C back => acc C _ h1 back
    · show ((Mu1.length :: ks).all (fun k => Nat.blt k (Mu1 ++ [some (mO cn [] [])]).length) && decide (Mu1.length :: ks).Nodup) = true
      rw [Bool.and_eq_true]
      refine ⟨List.all_eq_true.mpr fun k z => ?_, decide_eq_true (List.nodup_cons.mpr ⟨nin, nd'⟩)⟩
      rw [List.length_append, List.length_singleton]
      rcases List.mem_cons.mp z with z | z
      · rw [z]
        exact Nat.ble_eq_true_of_le (Nat.le_refl _)
      · exact Nat.ble_eq_true_of_le (Nat.le_succ_of_le (lt k z))
    · show ((posN (Mu1.length :: ks) Mu1.length).isSome && okC (Mu1.length :: ks) ss) = true
      rw [okc ss hc]
      unfold posN
      rw [if_pos rfl]
      rfl
    · rw [hi, List.map_cons]
      congr 1
      show SV.cell 0 = .cell ((posN (Mu1.length :: ks) Mu1.length).getD 0)
      unfold posN
      rw [if_pos rfl]
      rfl
    · rw [hcel]
      show (((Mu1 ++ [some (mO cn [] [])])[Mu1.length]?).getD none) :: selN none (Mu1 ++ [some (mO cn [] [])]) ks = _
      rw [sel ks lt, List.getElem?_append_right (Nat.le_refl _), Nat.sub_self]
      have hC : selN none Mu1 ks = pinL ps cs := hC
      rw [hC]
      rfl
    · rw [hcel]
      exact hP
/-- an instance by __init__, which changes no cell of its arguments but as Mp tells -/
theorem ef_make (ha : EvA K ta G Mu Mu1 ss) (hm : F.m x = .ok w) (hk : okKs ks Mu1.length = true := by rfl) (hc : okC ks ss = true := by rfl) (hi : F.ins x = .cell 0 :: (ss.map (renC ((Mu1.length) :: ks))) := by rfl) (hC : selN none Mu1 ks = pinL ps (F.cells x).tail := by rfl) (h0 : (F.cells x).head? = some (some (mO cn [] [])) := by rfl) (hP : okP ps (F.cells x).tail = true := by rfl)
    (ho : F.out x w = .vd (some mc :: Mp) := by rfl) (hp : Mp.length = ks.length := by rfl) {sp : Sp} (hsp : SpLe (spT K T F) sp := by exact fun _ _ _ _ h => h) : EvF K (tMakeS (He.ga K cn) sp Es ta) G Mu (putAll Mu1 ks (pinL ps Mp)) mc := fun B σ S ls H Q sl hs q =>
  ha B σ S ls H _ sl hs fun vs S1 l1 H1 a1 b1 c1 d1 => fun y dx ny nd ne => by
    refine hsp _ _ _ _ ?_
    refine make_call (cn := cn) c1 d1 hk hc hi hC h0 hP hm ny nd ne fun C h c2 back => ?_
    rw [ho]
    have kk := Bool.and_eq_true_iff.mp (show (ks.all (fun k => Nat.blt k Mu1.length) && decide ks.Nodup) = true from hk)
    have lt : ∀ k ∈ ks, k < Mu1.length := fun k z => Nat.le_of_ble_eq_true (List.all_eq_true.mp kk.1 k z)
    have key : ∀ (ks : List Nat) (Ms : Mm) (M : Mm), M.length = Mu1.length → (∀ k ∈ ks, k < Mu1.length) → putAll (M ++ [some mc]) ks Ms = putAll M ks Ms ++ [some mc] := by
      intro ks
      induction ks with
      | nil => intro Ms M _ _; unfold putAll; rfl
      | cons k ks ih =>
        intro Ms M hM l
        cases Ms with
        | nil => unfold putAll; rfl
        | cons m Ms =>
          unfold putAll
          rw [List.set_append_left _ _ (by rw [hM]; exact l k (List.mem_cons_self ..))]
          exact ih Ms (M.set k m) (by rw [List.length_set]; exact hM) fun j z => l j (List.mem_cons_of_mem _ z)
    have e3 : putAll (Mu1 ++ [some (mO cn [] [])]) (Mu1.length :: ks) (pinL (none :: ps) (some mc :: Mp)) = putAll Mu1 ks (pinL ps Mp) ++ [some mc] := by
      show putAll ((Mu1 ++ [some (mO cn [] [])]).set Mu1.length (some (pin none mc))) ks (pinL ps Mp) = _
      have e4 : (Mu1 ++ [some (mO cn [] [])]).set Mu1.length (some (pin none mc)) = Mu1 ++ [some mc] := by simp [pin]
      rw [e4]
      exact key ks _ _ rfl lt
    have fin : Aft K B S1 (l1 ++ [y]) (putAll (Mu1 ++ [some (mO cn [] [])]) (Mu1.length :: ks) (pinL (none :: ps) (some mc :: Mp))) vN (fun v H2 => v = .non ∧ Q (.ref y) H2) := fun v S2 l2 H2 a2 b2 c2' d2 => by
      refine ⟨d2, ?_⟩
      rw [e3] at c2'
      refine q (.ref y) S2 l2 H2 (a1.trans a2) ((b1.trans ⟨[y], rfl⟩).trans b2) c2' ⟨y, ?_, rfl⟩
      refine b2.get ?_
      rw [putAll_len, ← c1.len]
      simp
    exact acc_vd (ks := Mu1.length :: ks) (ps := none :: ps) c2 (by rw [List.length_cons, List.length_cons, hp]) back fin
theorem ex_make {y : Xc} {g0 : Option Gm} {m0 : Option MV} (ha : EvA K ta G Mu Mu1 ss) (hm : F.m x = .ok w) (hk : okKs ks Mu1.length = true := by rfl) (hc : okC ks ss = true := by rfl) (hi : F.ins x = .cell 0 :: (ss.map (renC ((Mu1.length) :: ks))) := by rfl) (hC : selN none Mu1 ks = pinL ps (F.cells x).tail := by rfl) (h0 : (F.cells x).head? = some (some (mO cn [] [])) := by rfl) (hP : okP ps (F.cells x).tail = true := by rfl)
    (ho : F.out x w = .ex y g0 (m0 :: Mp) := by rfl) (hp : Mp.length = ks.length := by rfl) {sp : Sp} (hsp : SpLe (spT K W.T F) sp := by exact fun _ _ _ _ h => h) : EvX K W (tMakeS (He.ga K cn) sp (fun σ cls d H' => W.W cls d σ H') ta) G Mu (putAll Mu1 ks (pinL ps Mp)) y := fun B σ S ls H Q sl hs q =>
  ha B σ S ls H _ sl hs fun vs S1 l1 H1 a1 b1 c1 d1 => fun z dx ny nd ne => by
    refine hsp _ _ _ _ ?_
    refine make_call (cn := cn) c1 d1 hk hc hi hC h0 hP hm ny nd ne fun C h c2 back => ?_
    rw [ho]
    have kk := Bool.and_eq_true_iff.mp (show (ks.all (fun k => Nat.blt k Mu1.length) && decide ks.Nodup) = true from hk)
    have lt : ∀ k ∈ ks, k < Mu1.length := fun k z => Nat.le_of_ble_eq_true (List.all_eq_true.mp kk.1 k z)
    have key : ∀ (mc : Option MV) (ks : List Nat) (Ms : Mm) (M : Mm), M.length = Mu1.length → (∀ k ∈ ks, k < Mu1.length) → putAll (M ++ [mc]) ks Ms = putAll M ks Ms ++ [mc] := by
      intro mc ks
      induction ks with
      | nil => intro Ms M _ _; unfold putAll; rfl
      | cons k ks ih =>
        intro Ms M hM l
        cases Ms with
        | nil => unfold putAll; rfl
        | cons m Ms =>
          unfold putAll
          rw [List.set_append_left _ _ (by rw [hM]; exact l k (List.mem_cons_self ..))]
          exact ih Ms (M.set k m) (by rw [List.length_set]; exact hM) fun j z => l j (List.mem_cons_of_mem _ z)
    obtain ⟨mc, e3⟩ : ∃ mc, putAll (Mu1 ++ [some (mO cn [] [])]) (Mu1.length :: ks) (pinL (none :: ps) (m0 :: Mp)) = putAll Mu1 ks (pinL ps Mp) ++ [mc] := by
      cases m0 with
      | none =>
        refine ⟨none, ?_⟩
        show putAll ((Mu1 ++ [some (mO cn [] [])]).set Mu1.length none) ks (pinL ps Mp) = _
        rw [show (Mu1 ++ [some (mO cn [] [])]).set Mu1.length none = Mu1 ++ [none] by simp]
        exact key _ ks _ _ rfl lt
      | some mm =>
        refine ⟨some (pin none mm), ?_⟩
        show putAll ((Mu1 ++ [some (mO cn [] [])]).set Mu1.length (some (pin none mm))) ks (pinL ps Mp) = _
        rw [show (Mu1 ++ [some (mO cn [] [])]).set Mu1.length (some (pin none mm)) = Mu1 ++ [some (pin none mm)] by simp]
        exact key _ ks _ _ rfl lt
    refine acc_ex (Q := fun v H2 => v = .non ∧ Q (.ref z) H2) (σ := σ) (ks := Mu1.length :: ks) (ps := none :: ps) c2 (by rw [List.length_cons, List.length_cons, hp]) back fun S2 l2 H2 cls d a2 b2 c3 hx => ?_
    rw [e3] at c3
    have hlen := c3.len
    rw [List.length_append, List.length_singleton] at hlen
    obtain ⟨l3, b, el⟩ : ∃ l3 b, l2 = l3 ++ [b] := ⟨l2.dropLast, l2.getLast (by intro z; rw [z] at hlen; simp at hlen), (List.dropLast_concat_getLast _).symm⟩
    subst el
    have hle : l1.length ≤ l3.length := by
      rw [List.length_append, List.length_singleton, putAll_len, ← c1.len] at hlen
      omega
    have hp1 : Pre l1 l3 := Pre.cut ((Pre.app (Pre.refl l1)).trans b2) hle
    exact q S2 l3 H2 cls d (a1.trans a2) (b1.trans hp1) (c3.cut (c1.c0.trans hp1)) hx
end
end TL

/-! TL: rules of the hand layer that were lacking: exceptions of classes over a class of one's own, calls whose wishes lean on the slots, staticmethods. -/
namespace TL
open PySem PySem.Spec PyProof.Rows L2
/-! ### what a class must be to be raised -/
def oexB (K : PySem.W.Frag) (C : Addr) : Bool := (match K.lookup C with
  | some ⟨.type t, _, .cls cd, sl⟩ => decide (t = "type") && (match cd.mro, sl.toList with
    | .ref C' :: bm, [_, _, _, _, some (.builtin n), _] => decide (C' = C) && (decide (n = "ValueError.__new__") && (!cd.hasDel && (cd.hasDict && PySem.HandSPX.refsVE bm)))
    | _, _ => false)
  | _ => false) && (decide (PySem.W.findIn K (.ref C) "__setattr__" = some (some (.builtin "object.__setattr__"))) && (decide (PySem.W.subIn K (.ref C) (.type "BaseException") = some true) && (decide (PySem.W.typeIn K (.ref C) = some (.type "type")) && PySem.W.keepIn K (.ref C))))
theorem oexB_ok {K : PySem.W.Frag} {C : Addr} (h : oexB K C = true) : OexC K C := by
  obtain ⟨h1, h⟩ := Bool.and_eq_true_iff.mp h
  obtain ⟨h2, h⟩ := Bool.and_eq_true_iff.mp h
  obtain ⟨h3, h⟩ := Bool.and_eq_true_iff.mp h
  obtain ⟨h4, h5⟩ := Bool.and_eq_true_iff.mp h
  refine ⟨?_, of_decide_eq_true h2, of_decide_eq_true h3, of_decide_eq_true h4, h5⟩
  cases q : K.lookup C with
  | none =>
    rw [q] at h1
    cases h1
  | some o =>
    obtain ⟨oc, dd, dt, sl⟩ := o
    rw [q] at h1
    cases oc with
    | type t =>
      cases dt with
      | cls cd =>
        obtain ⟨e1, h1⟩ := Bool.and_eq_true_iff.mp h1
        have e1 := of_decide_eq_true e1
        subst e1
        obtain ⟨nm, bs, mro, ns, qn, hd, sn, sub, ab, col, del⟩ := cd
        obtain ⟨l⟩ := sl
        have key : ∀ (zs : List Value) (ys : List (Option Value)), (match zs, ys with
            | .ref C' :: bm, [_, _, _, _, some (.builtin n), _] => decide (C' = C) && (decide (n = "ValueError.__new__") && (!del && (hd && PySem.HandSPX.refsVE bm)))
            | _, _ => false) = true → ∃ bm k0 k1 k2 k3 k5, zs = .ref C :: bm ∧ ys = [k0, k1, k2, k3, some (.builtin "ValueError.__new__"), k5] ∧ del = false ∧ hd = true ∧ PySem.HandSPX.refsVE bm = true := fun zs ys h => by
          split at h
          · obtain ⟨g1, h⟩ := Bool.and_eq_true_iff.mp h
            obtain ⟨g2, h⟩ := Bool.and_eq_true_iff.mp h
            obtain ⟨g3, h⟩ := Bool.and_eq_true_iff.mp h
            obtain ⟨g4, g5⟩ := Bool.and_eq_true_iff.mp h
            have g1 := of_decide_eq_true g1
            have g2 := of_decide_eq_true g2
            rw [g1, g2]
            exact ⟨_, _, _, _, _, _, rfl, rfl, by simpa using g3, g4, g5⟩
          · cases h
        obtain ⟨bm, k0, k1, k2, k3, k5, em, el, e3, e4, e5⟩ := key _ _ h1
        dsimp only at em el
        subst em el e3 e4
        exact ⟨nm, qn, ns, bs, bm, sn, sub, ab, col, dd, k0, k1, k2, k3, k5, rfl, e5⟩
      | _ => cases h1
    | _ => cases h1
section
variable {X : Cx} {e : Expr} {es : List Expr} {ta : TA} {p1 p2 pos : Pos}
/-- Base.__init__(self, ..), Base a class of one's own without __init__, over ValueError -/
theorem pe_winit {x : Str} {C0 : Addr} {pl : Sem Bool} (hg : Gl X x) (hm : X.mg x = some (.ref C0)) (hr : PySem.W.readsIn X.K C0 (.type "type") = true) (hga : PySem.W.specialIn X.K (.ref C0) "__getattribute__" = some (some (.builtin "type.__getattribute__")))
    (vV : PySem.W.findCls X.K (.ref C0) (.type "type") "__init__" = some (.val (.builtin "ValueError.__init__"))) (ha : PA X (e :: es) ta) (hdb : (x == ("__debug__" : Str)) = false := by decide)
    (hc : eval (.Call (.Attribute (.Name x p1) "__init__" p2) (e :: es) [] pos) X.env = (do
      let ov ← eval (.Name x p1) X.env
      standAt p2.atName
      let (f, first) ← holding [ov] (getMethod ov "__init__" pl)
      callWith pos f first (backTo pos (starEach (e :: es) X.env)) (backToKw pos (keywordEach [] X.env))) := by rfl)
    (he : starEach (e :: es) X.env = (false, eval e X.env) :: starEach es X.env := by rfl) (hpl : (backTo pos (starEach es X.env)).any (·.1) = false := by rfl) :
    PE X (.Call (.Attribute (.Name x p1) "__init__" p2) (e :: es) [] pos) (tVeI X.K ta) := by
  refine ⟨fun pins s σ H Q I h => PySem.W.methodCall_KW (ld_glob I hg hm ?_ hdb) hc⟩
  refine PySem.W.method_cls I.kIn hga (PySem.W.cls_value I.kIn hr vV (by decide +kernel) ?_)
  refine PyProof.Rows.callWith_method1 (thn (ha.run pos pins _ σ H _ (I.tok _) h) fun us s1 hus => ?_) he hpl
  obtain ⟨vs, H1, I1, r1, a, C, ws, ev, hl, T, ea, q⟩ := hus
  subst ev
  cases r1 with
  | @cons _ u0 _ ur ra rw' =>
    obtain rfl : u0 = Value.ref a := ra
    refine oinit_ok T I1 ea ?_ fun s' J => ⟨V.non, H1, J, rfl, q⟩
    rw [sizeLine_eq, ← Paired.length rw']
    omega
end
/-! ### an exception's making, its context None -/
theorem pmkN_oex {X : Cx} {CT : CXT} {x : Str} {e : Expr} {es : List Expr} {ta : TA} {p pos : Pos} {C fI : Addr} {k : Nat} {fd : FuncData} {ps : List Str} {sp : Sp} (T : OexC X.K C) (iC : PySem.W.findIn X.K (.ref C) "__init__" = some (some (.ref fI))) (tI : PySem.W.typeIn X.K (.ref fI) = some (.type "function"))
    (F1 : FnOk X.prog X.w X.K X.mg X.base CT k fI fd ps sp) (hr : Room (k + 1) X.A) (hb : Binds X.K fd ps []) (hx : Passes CT X (fun _ _ _ => False)) (hg : Gl X x) (hm : X.mg x = some (.ref C)) (ha : PA X (e :: es) ta)
    (hdb : (x == ("__debug__" : Str)) = false := by decide) (he : starEach (e :: es) X.env = (false, eval e X.env) :: starEach es X.env := by rfl) (hpl : (backTo pos (starEach es X.env)).any (·.1) = false := by rfl) :
    L2N.PMk X (.Call (.Name x p) (e :: es) [] pos) (tMkO C sp [] ta) := fun pins s σ H Q I h => by
  obtain ⟨nm, q, N, bs, bm, sn, sub, ab, col, dd, k0, k1, k2, k3, k5, hC, hbm⟩ := T.cls
  refine wpAny_Call_Name_kw (ld_glob I hg hm ?_ hdb)
  refine PySem.W.callWith_K (h₀ := X.base) I.ok.mod.kin T.kC (thn (ha.run pos pins s σ H _ I h) fun us s1 hus => ?_) he hpl
  obtain ⟨vs, H1, I1, r1, hz, q1⟩ := hus
  refine ⟨I1.kIn, ?_⟩
  show wpAny _ _ (call (.ref C) us) _ _ _
  obtain ⟨hp, g, dr, tk, os⟩ := s1
  have sz : hp.objs.size ≤ hp.objs.size + 1 := Nat.le_succ _
  have hq := q1 (hp.objs.size + 1) (I1.hok.fresh sz)
  rw [List.append_nil] at hq
  have up2 : ∀ b o, hp.get? b = some o → ((hp.push (PySem.W.kdv_tup us)).push (PySem.HandSPX.excO C hp.objs.size)).get? b = some o := fun b o y => Heap.get?_push_of_some _ (Heap.get?_push_of_some _ y)
  have at2 : ((hp.push (PySem.W.kdv_tup us)).push (PySem.HandSPX.excO C hp.objs.size)).get? (hp.objs.size + 1) = some (PySem.HandSPX.excO C hp.objs.size) := by heap_get
  have I2 : Inv X pins σ (upd H1 (hp.objs.size + 1) (exo (hp.objs.size + 1) C none)) ⟨(hp.push (PySem.W.kdv_tup us)).push (PySem.HandSPX.excO C hp.objs.size), g, dr, tk, os⟩ := I1.laid (t' := tk) up2 sz (exo_ok at2)
  have r2 : Vals (V.ref (hp.objs.size + 1) :: vs) (Value.ref (hp.objs.size + 1) :: us) := .cons rfl r1
  have lp : (Value.ref (hp.objs.size + 1) :: us ++ []).length = ps.length := by
    have y := r2.length
    rw [F1.len _ _ _ _ hq] at y
    rw [List.append_nil]
    exact y.symm
  have lu : us.length ≤ sizeLine := by
    rw [sizeLine_eq, ← Paired.length r1]
    omega
  have bnd := hb _ (Value.ref (hp.objs.size + 1) :: us) I2.kIn lp
  rw [List.append_nil] at bnd
  refine wpAny_call (PySem.HandSPX.call_own F.excBase_ValueError (fun Y => PySem.HandSPX.refsVE_contains Y bm hbm) (I1.kIn _ _ hC) (PySem.W.looks_findIn I1.kIn iC) (fun self => PySem.W.bind_fn I1.kIn self tI) lu
    (codeAny_mono (F1.run _ X.stack _ _ ⟨Value.ref (hp.objs.size + 1) :: us, []⟩ (Value.ref (hp.objs.size + 1) :: us) _ _ (fun _ _ _ => False) (hr.make C us []) (I2.env0.make C us []) bnd r2 hq) fun r s' hq' => ?_))
  cases r with
  | error er => exact hx pins σ _ _ er s' I2 hq'
  | ok fl =>
    cases fl with
    | ret u =>
      obtain ⟨v, H2, os2, bare2, un2, hok2, rv, ev, d, fs, ea, ed, hd1, q2⟩ := hq'
      subst ev
      obtain ⟨h2, g2, d2, t2, os'⟩ := s'
      obtain ⟨t0, Gh, J, kG, ge, hoe, na⟩ := mk_end0 (d2 := d2) (t2 := t2) I1 sz up2 un2 hok2 os2 bare2 ea ed hd1
      exact ⟨rv, hp.objs.size + 1, _, _, ⟨Gh, g2, d2, t2, os'⟩, _, .ref C, some d, rfl, J, kG, ge, hoe, ⟨rfl, rfl, fun w hw => by cases hw; rfl⟩, rfl, rfl, na, rfl, bare2, raises_own T.exC T.tyC, q2⟩
    | next => exact False.elim hq'
    | brk => exact False.elim hq'
    | cont => exact False.elim hq'
/-! ### calls whose wish about exceptions leans on the slots -/
section
variable {X : Cx} {CT : CXT} {k : Nat} {f C : Addr} {fd : FuncData} {ps : List Str} {sp : Sp} {E : L2.St → XK} {x m : Str} {p pos apos : Pos} {e o : Expr} {es : List Expr} {ta : TE} {t : TA}
theorem pe_callS0 (F : FnOk X.prog X.w X.K X.mg X.base CT k f fd ps sp) (hr : Room k X.A) (hg : Gl X x) (hm : X.mg x = some (.ref f)) (hk : PySem.W.keepIn X.K (.ref f) = true) (hb : Binds X.K fd ps []) (hx : ∀ σ, PassesAt CT X σ (E σ)) (hdb : (x == ("__debug__" : Str)) = false := by decide) :
    PE X (.Call (.Name x p) [] [] pos) (tCallS sp E tNil) := ⟨fun pins s σ H Q I h => by
  refine wpAny_Call_Name_kw (ld_glob I hg hm ?_ hdb)
  exact PySem.W.callWith_K0 I.kIn hk (run_fnS (us := []) (vs := []) F hr hb (hx σ) I .nil h)⟩
def tMethS (C : Addr) (m : Str) (sp : Sp) (E : L2.St → XK) (ta : TE) (t : TA) : TE := fun σ H Q => ta σ H fun x H1 => ∃ a dx fs, x = .ref a ∧ H1 a = some (.ins C dx fs) ∧ fs.lookup m = none ∧ t σ H1 fun vs H2 => sp (x :: vs) H2 Q (E σ)
theorem pe_methS {pl : Sem Bool} (he : PE X o ta) (c : Cls X.K C) (hm : Meth X.K C m f) (F : FnOk X.prog X.w X.K X.mg X.base CT k f fd ps sp) (hr : Room k X.A) (hb : Binds X.K fd ps []) (hx : ∀ σ, PassesAt CT X σ (E σ)) (ha : PA X (e :: es) t)
    (hst : starEach (e :: es) X.env = (false, eval e X.env) :: starEach es X.env := by rfl) (hpl : (backTo pos (starEach es X.env)).any (·.1) = false := by rfl)
    (ht : eval (.Call (.Attribute o m apos) (e :: es) [] pos) X.env = (do
      let ov ← eval o X.env
      standAt apos.atName
      let (f, first) ← holding [ov] (getMethod ov m pl)
      callWith pos f first (backTo pos (starEach (e :: es) X.env)) (backToKw pos (keywordEach [] X.env))) := by rfl) :
    PE X (.Call (.Attribute o m apos) (e :: es) [] pos) (tMethS C m sp E ta t) := ⟨fun pins s σ H Q I h => by
  refine PySem.W.methodCall_KW (pl := pl) (thn (he.run pins s σ H _ I h) fun u s1 hu => ?_) ht
  obtain ⟨y, H1, I1, ry, a, dx, fs, ey, ea, l, q⟩ := hu
  subst ey
  obtain rfl : u = Value.ref a := ry
  refine getmeth_ok I1 ea c hm l ?_
  refine PySem.W.callWith_K (first := [.ref a]) (h₀ := X.base) I.ok.mod.kin hm.kp (thn (ha.run pos pins s1 σ H1 _ I1 q) fun us s2 hus => ?_) hst hpl
  obtain ⟨vs, H2, I2, r, q2⟩ := hus
  exact ⟨I2.kIn, run_fnS (us := .ref a :: us) (vs := .ref a :: vs) F hr hb (hx σ) I2 (.cons rfl r) q2⟩⟩
theorem pe_methS0 {pl : Sem Bool} (he : PE X o ta) (c : Cls X.K C) (hm : Meth X.K C m f) (F : FnOk X.prog X.w X.K X.mg X.base CT k f fd ps sp) (hr : Room k X.A) (hb : Binds X.K fd ps []) (hx : ∀ σ, PassesAt CT X σ (E σ))
    (ht : eval (.Call (.Attribute o m apos) [] [] pos) X.env = (do
      let ov ← eval o X.env
      standAt apos.atName
      let (f, first) ← holding [ov] (getMethod ov m pl)
      callWith pos f first (backTo pos (starEach [] X.env)) (backToKw pos (keywordEach [] X.env))) := by rfl) :
    PE X (.Call (.Attribute o m apos) [] [] pos) (tMethS C m sp E ta tNil) := ⟨fun pins s σ H Q I h => by
  refine PySem.W.methodCall_KW (pl := pl) (thn (he.run pins s σ H _ I h) fun u s1 hu => ?_) ht
  obtain ⟨y, H1, I1, ry, a, dx, fs, ey, ea, l, q⟩ := hu
  subst ey
  obtain rfl : u = Value.ref a := ry
  refine getmeth_ok I1 ea c hm l ?_
  exact PySem.W.callWith_K0 (first := [.ref a]) I1.kIn hm.kp (run_fnS (us := [.ref a]) (vs := [.ref a]) F hr hb (hx σ) I1 (.cons rfl .nil) q)⟩
/-- what leaves an __init__ leaves the call -/
theorem run_makeS {pins : List (Addr × Obj)} {σ : L2.St} {H : Hp} {s : Shared} {Q : VK} {us : List Value} {vs : List V} (M : Mk X.K C f) (F : FnOk X.prog X.w X.K X.mg X.base CT k f fd ps sp) (hr : Room (k + 1) X.A) (hb : Binds X.K fd ps []) (hx : PassesAt CT X σ (E σ))
    (I : Inv X pins σ H s) (r : Vals vs us) (h : ∀ y dx, H y = none → H dx = none → dx ≠ y → sp (.ref y :: vs) (upd (upd H dx (.own y)) y (.ins C dx [])) (fun v H2 => v = .non ∧ Q (.ref y) H2) (E σ)) :
    wpAny (model X.prog X.w) X.A (call (.ref C) us) (EP X pins σ Q) X.xe s := by
  have hq := h (s.heap.objs.size + 1) s.heap.objs.size (I.hok.fresh (Nat.le_succ _)) (I.hok.fresh (Nat.le_refl _)) (Nat.ne_of_lt (Nat.lt_succ_self _))
  have J := Inv.made (C := C) I
  have r2 : Vals (V.ref (s.heap.objs.size + 1) :: vs) (Value.ref (s.heap.objs.size + 1) :: us) := .cons rfl r
  have lp : (Value.ref (s.heap.objs.size + 1) :: us ++ []).length = ps.length := by
    have y := r2.length
    rw [F.len _ _ _ _ hq] at y
    rw [List.append_nil]
    exact y.symm
  have bnd := hb _ (Value.ref (s.heap.objs.size + 1) :: us) J.kIn lp
  rw [List.append_nil] at bnd
  refine wpAny_call (make_map (f := f) I.kIn M.makes M.init (beq_iff_eq.mp M.fn) (codeAny_mono (F.run _ X.stack _ _ ⟨Value.ref (s.heap.objs.size + 1) :: us, []⟩ (Value.ref (s.heap.objs.size + 1) :: us) _ _ (E σ) (hr.make C us []) (J.env0.make C us []) bnd r2 hq) fun r s' hq' => ?_))
  cases r with
  | error er => exact hx pins _ _ er s' J hq'
  | ok fl =>
    cases fl with
    | ret u =>
      obtain ⟨v, H', I3, rv, ev, q3⟩ := J.after hq'
      subst ev
      exact ⟨rv, V.ref (s.heap.objs.size + 1), H', I3, rfl, q3⟩
    | next => exact False.elim hq'
    | brk => exact False.elim hq'
    | cont => exact False.elim hq'
theorem pe_makeS (M : Mk X.K C f) (F : FnOk X.prog X.w X.K X.mg X.base CT k f fd ps sp) (hr : Room (k + 1) X.A) (hg : Gl X x) (hm : X.mg x = some (.ref C)) (hb : Binds X.K fd ps []) (hx : ∀ σ, PassesAt CT X σ (E σ)) (ha : PA X (e :: es) t)
    (hdb : (x == ("__debug__" : Str)) = false := by decide) (he : starEach (e :: es) X.env = (false, eval e X.env) :: starEach es X.env := by rfl) (hpl : (backTo pos (starEach es X.env)).any (·.1) = false := by rfl) :
    PE X (.Call (.Name x p) (e :: es) [] pos) (tMakeS C sp E t) := ⟨fun pins s σ H Q I h => by
  refine wpAny_Call_Name_kw (ld_glob I hg hm ?_ hdb)
  refine PySem.W.callWith_K (h₀ := X.base) I.ok.mod.kin M.kp (thn (ha.run pos pins s σ H _ I h) fun us s1 hus => ?_) he hpl
  obtain ⟨vs, H1, I1, r, q⟩ := hus
  exact ⟨I1.kIn, run_makeS M F hr hb (hx σ) I1 r q⟩⟩
theorem pe_makeS0 (M : Mk X.K C f) (F : FnOk X.prog X.w X.K X.mg X.base CT k f fd ps sp) (hr : Room (k + 1) X.A) (hg : Gl X x) (hm : X.mg x = some (.ref C)) (hb : Binds X.K fd ps []) (hx : ∀ σ, PassesAt CT X σ (E σ)) (hdb : (x == ("__debug__" : Str)) = false := by decide) :
    PE X (.Call (.Name x p) [] [] pos) (tMakeS C sp E tNil) := ⟨fun pins s σ H Q I h => by
  refine wpAny_Call_Name_kw (ld_glob I hg hm ?_ hdb)
  exact PySem.W.callWith_K0 I.kIn M.kp (run_makeS (us := []) M F hr hb (hx σ) I .nil h)⟩
/-! ### C.m(..), m a staticmethod -/
structure Stat (K : PySem.W.Frag) (C : Addr) (m : Str) (f : Addr) : Prop where
  rd : PySem.W.readsIn K C (.type "type") = true
  ga : PySem.W.specialIn K (.ref C) "__getattribute__" = some (some (.builtin "type.__getattribute__"))
  at_ : ∃ q rest, PySem.W.findCls K (.ref C) (.type "type") m = some (.get (.builtin "staticmethod.__get__") (.ref q) .none (.ref C)) ∧ PySem.W.recIn K q "staticmethod" = some (.ref f :: rest)
  kp : PySem.W.keepIn K (.ref f) = true
theorem pe_stat {pl : Sem Bool} {px : Pos} (S : Stat X.K C m f) (F : FnOk X.prog X.w X.K X.mg X.base CT k f fd ps sp) (hr : Room k X.A) (hg : Gl X x) (hm : X.mg x = some (.ref C)) (hb : Binds X.K fd ps []) (hx : ∀ σ, PassesAt CT X σ (E σ)) (ha : PA X (e :: es) t) (hdb : (x == ("__debug__" : Str)) = false := by decide)
    (hst : starEach (e :: es) X.env = (false, eval e X.env) :: starEach es X.env := by rfl) (hpl : (backTo pos (starEach es X.env)).any (·.1) = false := by rfl)
    (ht : eval (.Call (.Attribute (.Name x px) m apos) (e :: es) [] pos) X.env = (do
      let ov ← eval (.Name x px) X.env
      standAt apos.atName
      let (f, first) ← holding [ov] (getMethod ov m pl)
      callWith pos f first (backTo pos (starEach (e :: es) X.env)) (backToKw pos (keywordEach [] X.env))) := by rfl) :
    PE X (.Call (.Attribute (.Name x px) m apos) (e :: es) [] pos) (tCallS sp E t) := ⟨fun pins s σ H Q I h => by
  obtain ⟨q, rest, e1, e2⟩ := S.at_
  refine PySem.W.methodCall_KW (pl := pl) (ld_glob I hg hm ?_ hdb) ht
  refine PySem.W.method_cls I.kIn S.ga (PySem.W.cls_bind I.kIn S.rd e1 (wpAny_call (PySem.W.sm_get (s := { s with toks := s.toks + 1 }) I.kIn e2 (PySem.W.handed_on rfl ?_))))
  refine PySem.W.callWith_K (h₀ := X.base) I.ok.mod.kin S.kp (thn (ha.run pos pins _ σ H _ (I.tok _) h) fun us s1 hus => ?_) hst hpl
  obtain ⟨vs, H1, I1, r, q1⟩ := hus
  exact ⟨I1.kIn, run_fnS F hr hb (hx σ) I1 r q1⟩⟩
end
/-! ### try: body, clauses with or without a name -/
/-- a clause's ends, the name of the exception gone behind it -/
def offE (i : Nat) (D : Ends) : Ends := { nx := fun σ' H' => D.nx (σ'.set i none) H', rt := D.rt, bk := fun σ' H' => D.bk (σ'.set i none) H', ct := fun σ' H' => D.ct (σ'.set i none) H' }
abbrev HD := Value × Option Nat × (Addr → Value → Option Addr → TS)
def goH (D : Ends) (σ : L2.St) (H : Hp) (a : Addr) (cls : Value) (d : Option Addr) (i : Option Nat) (ts : Addr → Value → Option Addr → TS) : Prop := match i with
  | none => ts a cls d D σ H
  | some i => ts a cls d (offE i D) (σ.set i (some (.ref a))) H
def wHds (K : PySem.W.Frag) (Wout : WX) (D : Ends) : List HD → WX
  | [] => Wout
  | (c, i, ts) :: r => fun cls d σ H => ∃ b, PySem.W.exmOne K cls c = some b ∧ (b = true → ∀ a, H a = none → goH D σ H a cls d i ts) ∧ (b = false → wHds K Wout D r cls d σ H)
inductive Clauses (X : Cx) : List ExceptHandler → List HD → Prop
  | nil : Clauses X [] []
  | plain {x : Str} {c : Value} {ts : Addr → Value → Option Addr → TS} {b0 : Stmt} {su : List Stmt} {p1 p2 : Pos} {hds : List ExceptHandler} {l : List HD} (hc : Names X x c)
      (hsu : ∀ (a : Addr) (oe : Obj) (cls : Value) (d : Option Addr) (pn : List (Addr × Obj)), L2N.Zn cls d oe → (∃ vs, oe.data = .fields vs) → PSs (X.suite a ((a, oe) :: pn)) (b0 :: su) (ts a cls d)) (r : Clauses X hds l) :
      Clauses X (.ExceptHandler (some (.Name x p1)) none (b0 :: su) p2 :: hds) ((c, none, ts) :: l)
  | named {x n : Str} {i : Nat} {c : Value} {ts : Addr → Value → Option Addr → TS} {b0 : Stmt} {su : List Stmt} {p1 p2 : Pos} {hds : List ExceptHandler} {l : List HD} (hc : Names X x c) (hN : X.N.Nodup) (hi : X.N[i]? = some n) (hln : X.env.kindOf n = some .local)
      (hsu : ∀ (a : Addr) (oe : Obj) (cls : Value) (d : Option Addr) (pn : List (Addr × Obj)), L2N.Zn cls d oe → (∃ vs, oe.data = .fields vs) → PSs (X.suite a ((a, oe) :: pn)) (b0 :: su) (ts a cls d)) (r : Clauses X hds l) :
      Clauses X (.ExceptHandler (some (.Name x p1)) (some n) (b0 :: su) p2 :: hds) ((c, some i, ts) :: l)
/-- a try's body, what it raises taken up by the clauses l -/
def tTryH (K : PySem.W.Frag) (Wout : WX) (l : List HD) (tb : WX → TS) : TS := fun D σ H => tb (wHds K Wout D l) D σ H
theorem ps_tryH {X : Cx} {body : List Stmt} {h0 : ExceptHandler} {hds : List ExceptHandler} {l : List HD} {pos : Pos} {tb : WX → TS} {Wout : WX} (hs : X.stack = X.env :: X.outer) (hf : X.env.frame = some X.env.locals) (tk : L2N.Takes X Wout)
    (hb : ∀ (W : WX) (pn : List (Addr × Obj)) (xe : Value → Shared → Prop), L2N.Takes (X.tr pn xe) W → PassesOwn (model X.prog X.w) X.A X.env xe → PSs (X.tr pn xe) body (tb W)) (hh : Clauses X (h0 :: hds) l) :
    PS X (.Try body (h0 :: hds) [] [] pos) (tTryH X.K Wout l tb) := ⟨fun pins s σ H D I h => by
  have okX := I.ok
  have frX : X.A.frames = some (X.env :: X.outer) := by rw [okX.frames, hs]
  refine wpAny_Try_except (wpAny_mono ((hb (wHds X.K Wout D l) (X.pn ++ pins) (fun ev z1 => wpAny (model X.prog X.w) X.A (noteFrame ev X.env) (fun _ z2 => wpAny (model X.prog X.w) X.A (setFlight ev none) (fun _ z3 =>
    wpAny (model X.prog X.w) X.A (handleBy ev X.env (h0 :: hds)) (SP X pins D) X.xe z3) X.xe z2) X.xe z1) (fun u z xx => ?_) PassesOwn.looking).run [] s σ H D (I.toTry _) h) (fun f s1 hsp => ?_) (fun _ _ y => y))
  · obtain ⟨a, B, sI, pins', σ', H', cls, d, rfl, J', nb, up, sky, na, os, ag, w⟩ := xx
    have J : Inv X pins σ' H' sI := J'.ofTry okX
    have sky2 : Sky B (X.env :: X.outer) a (L2N.Zn cls d) X.env.locals z.heap := by rw [← hs]; exact sky
    show wpAny (model X.prog X.w) X.A (noteFrame (.ref a) X.env) _ _ _
    refine L2N.Sky.land L2N.Zn.steady frX hf sky2 fun g3 fly3 up3 => ?_
    have K3 : Inv X pins σ' H' { z with heap := g3 } := J.landed nb fly3.1 (up.trans up3) os ag
    obtain ⟨o3, w3, at3, z3, dt3⟩ := fly3.there
    have off : a ∉ frs (X.env :: X.outer) := fun hm => by
      obtain ⟨_, o', e', nf⟩ := fly3.2.2.1.mem hm
      rw [at3] at e'
      cases e'
      exact nf _ dt3
    have nL : a ≠ X.env.locals := fun y => off (List.mem_filterMap.mpr ⟨X.env, List.mem_cons_self, by rw [hf, y]⟩)
    have nF : a ∉ X.fs := fun hm => by
      obtain ⟨en, hen, q⟩ := List.mem_filterMap.mp hm
      exact off (List.mem_filterMap.mpr ⟨en, List.mem_cons_of_mem _ hen, q⟩)
    have T3 := K3.suite at3 dt3 na nL nF
    have LT : PySem.W.Looks (model X.prog X.w) g3 (typeOf (.ref a)) cls := fun A Q E s k q => wpAny_typeOf_ref (k _ _ at3) (by rw [z3.1]; exact q)
    have ask : ∀ {x : Str} {c : Value} {p1 : Pos} {Q E : Value → Shared → Prop}, Names X x c → Q c { z with heap := g3 } → wpAny (model X.prog X.w) (X.A.mark (some (.ref a))) (eval (.Name x p1) X.env) Q E { z with heap := g3 } := fun hc q => by
      obtain ⟨hg, hdbg, hm | ⟨hm, hv, hnn⟩⟩ := hc
      · exact ld_glob (X := X.suite a ((a, o3) :: (X.pn ++ pins))) T3 hg hm q hdbg
      · exact ld_blt (X := X.suite a ((a, o3) :: (X.pn ++ pins))) T3 hg hm hv q hnn hdbg
    have main : ∀ {hs' : List ExceptHandler} {l' : List HD}, Clauses X hs' l' → wHds X.K Wout D l' cls d σ' H' → wpAny (model X.prog X.w) X.A (handleBy (.ref a) X.env hs') (SP X pins D) X.xe { z with heap := g3 } := by
      intro hs' l' cl
      induction cl with
      | nil =>
        intro w
        refine wpAny_handleBy_nil ?_
        obtain ⟨_, _, _, oe, vs, tr, oT, ts', he, hz, hd, h1, hr⟩ := id fly3
        unfold PySem.passOn
        refine wpAny_bind (wpAny_field he hd h1 ?_)
        rw [if_neg (show ¬ ((Value.ref tr == Value.none) = true) from by simp)]
        have fin : wpAny (model X.prog X.w) X.A (setFlight (.ref a) X.env.frame) (fun _ z4 => wpAny (model X.prog X.w) X.A (throw (.ref a) : Sem Flow) (SP X pins D) X.xe z4) X.xe { z with heap := g3 } := by
          rw [hf]
          exact HandSPX.setFlight_upZ fly3 fun g4 hh4 up4 => wpAny_throw (tk _ _ ⟨a, B, sI, pins, σ', H', cls, d, rfl, J, nb, (up.trans up3).trans up4, .inr (.inr (by rw [hs]; exact hh4)), na, os, ag, w⟩)
        first
          | exact wpAny_bind (wpAny_pure (wpAny_bind fin))
          | exact wpAny_bind fin
      | @plain x c ts b0 su p1 p2 hs2 l2 hc hsu r ih =>
        intro w
        obtain ⟨b, hb1, yes, no⟩ := w
        refine wpAny_handleBy_cons (codeAny_handlers_test (ask hc ((PySem.W.exm_one (M := model X.prog X.w) K3.kIn LT hb1).here ?_))) (by intro q; cases q)
        cases b with
        | false => exact ih (no rfl)
        | true =>
          refine codeAny_handlers_suite (HandSPX.lands_againZ fly3 fun g4 fly4 up4 => ?_)
          have K4 : Inv X pins σ' H' { z with heap := g4 } := J.landed nb fly4.1 ((up.trans up3).trans up4) os ag
          obtain ⟨o4, w4, at4, z4, dt4⟩ := fly4.there
          have T4 := K4.suite at4 dt4 na nL nF
          refine wpAny_mono ((hsu a o4 cls d (X.pn ++ pins) z4 ⟨_, dt4⟩).run [] _ _ H' _ T4 (yes rfl a na)) (fun f s6 sp6 => ?_) (fun _ _ y => False.elim y)
          cases f with
          | next =>
            obtain ⟨σ6, H6, S6, q6⟩ := sp6
            exact ⟨_, _, S6.unsuite okX, q6⟩
          | brk =>
            obtain ⟨σ6, H6, S6, q6⟩ := sp6
            exact ⟨_, _, S6.unsuite okX, q6⟩
          | cont =>
            obtain ⟨σ6, H6, S6, q6⟩ := sp6
            exact ⟨_, _, S6.unsuite okX, q6⟩
          | ret u =>
            obtain ⟨v6, σ6, H6, S6, r6, q6⟩ := sp6
            exact ⟨_, _, _, S6.unsuite okX, r6, q6⟩
      | @named x n i c ts b0 su p1 p2 hs2 l2 hc hN hi hln hsu r ih =>
        intro w
        obtain ⟨b, hb1, yes, no⟩ := w
        refine wpAny_handleBy_cons (codeAny_handlers_test (ask hc ((PySem.W.exm_one (M := model X.prog X.w) K3.kIn LT hb1).here ?_))) (by intro q; cases q)
        cases b with
        | false => exact ih (no rfl)
        | true =>
          have lc : Loc X.env.scope n := .inl hln
          refine codeAny_handlers_suite_as (HandSPX.lands_againZ fly3 fun g4 fly4 up4 => ?_)
          have K4 : Inv X pins σ' H' { z with heap := g4 } := J.landed nb fly4.1 ((up.trans up3).trans up4) os ag
          obtain ⟨o4, w4, at4, z4, dt4⟩ := fly4.there
          have T4 := K4.suite at4 dt4 na nL nF
          refine store_ok (X := X.suite a ((a, o4) :: (X.pn ++ pins))) (v := .ref a) T4 hN hi lc rfl (fun s5 S5 => ?_) (.inr hln)
          refine wpAny_mono ((hsu a o4 cls d (X.pn ++ pins) z4 ⟨_, dt4⟩).run [] s5 _ H' _ S5 (yes rfl a na)) (fun f s6 sp6 => ?_) (fun _ _ y => False.elim y)
          have gone : ∀ {σ6 : L2.St} {H6 : Hp} {Q : Shared → Prop}, Inv (X.suite a ((a, o4) :: (X.pn ++ pins))) [] σ6 H6 s6 → (∀ s7, Inv X pins (σ6.set i none) H6 s7 → Q s7) →
              wpAny (model X.prog X.w) X.A (do bindName X.env n .none; unbindBehindTheSuite X.env n p2) (fun _ s7 => Q s7) X.xe s6 := fun S6 hq => gone_ok (S6.unsuite okX) hN hi hln hq
          cases f with
          | next =>
            obtain ⟨σ6, H6, S6, q6⟩ := sp6
            exact gone S6 fun s7 J7 => ⟨_, _, J7, q6⟩
          | brk =>
            obtain ⟨σ6, H6, S6, q6⟩ := sp6
            exact gone S6 fun s7 J7 => ⟨_, _, J7, q6⟩
          | cont =>
            obtain ⟨σ6, H6, S6, q6⟩ := sp6
            exact gone S6 fun s7 J7 => ⟨_, _, J7, q6⟩
          | ret u =>
            obtain ⟨v6, σ6, H6, S6, r6, q6⟩ := sp6
            exact gone S6 fun s7 J7 => ⟨_, _, _, J7, r6, q6⟩
    exact main hh w
  · cases f with
    | next =>
      obtain ⟨σ', H', J', q⟩ := hsp
      exact wpAny_execs_nil ⟨σ', H', J'.ofTry okX, q⟩
    | brk =>
      obtain ⟨σ', H', J', q⟩ := hsp
      exact ⟨σ', H', J'.ofTry okX, q⟩
    | cont =>
      obtain ⟨σ', H', J', q⟩ := hsp
      exact ⟨σ', H', J'.ofTry okX, q⟩
    | ret u =>
      obtain ⟨v, σ', H', J', r, q⟩ := hsp
      exact ⟨v, σ', H', J'.ofTry okX, r, q⟩⟩
end TL

/-! TL: methods, what is raised, try. -/
namespace TL
open PySem L2
/-! ### methods -/
def IsIns (K : PySem.W.Frag) (Mu : Mm) (s : SV) (cn m : Str) : Prop :=
  ∀ B S ls H v, HS K B S ls Mu H → s.p K S ls v → ∃ a dx fs, v = .ref a ∧ H a = some (.ins (He.ga K cn) dx fs) ∧ fs.lookup m = none
section
variable {ω ι : Type} {K : PySem.W.Frag} {W : Xw} {T : List XcD} {G : Gm} {Mu Mu0 Mu1 Mu2 : Mm} {ta : TA} {te : TE} {F : FS ι ω} {x : ι} {w : ω} {Es : L2.St → XK} {s : SV} {ss : List SV} {cn m : Str} {ks : List Nat} {ps : List (Option Addr)} {t : TV} {mv : MV} {Mp : Mm} {y : Xc} {g0 : Option Gm} {k : Nat} {is : List IV} {ns : List Str} {ts : List TV}
theorem is_insO (h : fldI ns m = none) : IsIns K Mu (.val (oT cn ns ts)) cn m := fun B S ls H v hs ⟨a, dx, vs, e1, e2, e3, e4, e5⟩ => ⟨a, dx, _, e1, hs.ex _ _ e2, zip_lookup_none h⟩
theorem is_insC (oc : Option Addr) (hk : Mu[k]? = some (some (pin oc (mO cn ns is)))) (h : fldI ns m = none) : IsIns K Mu (.cell k) cn m := fun B S ls H v hs ⟨a, e1, e2⟩ => by
  obtain ⟨a', vs, y, f1, ⟨dx, g1, g2, g3, g4, g5⟩, f3, _⟩ := hs.node hk
  rw [e1] at f1
  cases f1
  exact ⟨a, dx, _, e2, g1, zip_lookup_none h⟩
theorem ev_meth (ho : EvV K te G Mu Mu0 s) (hi0 : IsIns K Mu0 s cn m) (ha : EvA K ta G Mu0 Mu1 ss) (hm : F.m x = .ok w) (hk : okKs ks Mu1.length = true := by rfl) (hc : okC ks (s :: ss) = true := by rfl) (hi : F.ins x = (s :: ss).map (renC ks) := by rfl) (hC : selN none Mu1 ks = pinL ps (F.cells x) := by rfl) (hP : okP ps (F.cells x) = true := by rfl) (hr : F.out x w = .rt t Mp := by rfl) (hp : Mp.length = ks.length := by rfl) {sp : Sp} (hsp : SpLe (spT K T F) sp := by exact fun _ _ _ _ h => h) :
    EvV K (tMethS (He.ga K cn) m sp Es te ta) G Mu (putAll Mu1 ks (pinL ps Mp)) (.val t) := fun B σ S ls H Q sl hs q =>
  ho B σ S ls H _ sl hs fun v S0 l0 H0 a0 b0 c0 d0 => by
    obtain ⟨a, dx, fs, e1, e2, e3⟩ := hi0 B S0 l0 H0 v c0 d0
    refine ⟨a, dx, fs, e1, e2, e3, ha B σ S0 l0 H0 _ (sl.mono a0 b0) c0 fun vs S1 l1 H1 a1 b1 c1 d1 => ?_⟩
    refine hsp _ _ _ _ ?_
    refine sp_call c1 (.cons (SV.mono a1 b1 d0) d1) hk hc hi hC hP hm fun C back => ?_
    rw [hr]
    exact acc_rt c1 hp back (q.mono (a0.trans a1) (b0.trans b1))
theorem ev_methN (ho : EvV K te G Mu Mu0 s) (hi0 : IsIns K Mu0 s cn m) (ha : EvA K ta G Mu0 Mu1 ss) (hm : F.m x = .ok w) (hk : okKs ks Mu1.length = true := by rfl) (hc : okC ks (s :: ss) = true := by rfl) (hi : F.ins x = (s :: ss).map (renC ks) := by rfl) (hC : selN none Mu1 ks = pinL ps (F.cells x) := by rfl) (hP : okP ps (F.cells x) = true := by rfl) (hr : F.out x w = .vd Mp := by rfl) (hp : Mp.length = ks.length := by rfl) {sp : Sp} (hsp : SpLe (spT K T F) sp := by exact fun _ _ _ _ h => h) :
    EvV K (tMethS (He.ga K cn) m sp Es te ta) G Mu (putAll Mu1 ks (pinL ps Mp)) vN := fun B σ S ls H Q sl hs q =>
  ho B σ S ls H _ sl hs fun v S0 l0 H0 a0 b0 c0 d0 => by
    obtain ⟨a, dx, fs, e1, e2, e3⟩ := hi0 B S0 l0 H0 v c0 d0
    refine ⟨a, dx, fs, e1, e2, e3, ha B σ S0 l0 H0 _ (sl.mono a0 b0) c0 fun vs S1 l1 H1 a1 b1 c1 d1 => ?_⟩
    refine hsp _ _ _ _ ?_
    refine sp_call c1 (.cons (SV.mono a1 b1 d0) d1) hk hc hi hC hP hm fun C back => ?_
    rw [hr]
    exact acc_vd c1 hp back (q.mono (a0.trans a1) (b0.trans b1))
theorem ef_meth (ho : EvV K te G Mu Mu0 s) (hi0 : IsIns K Mu0 s cn m) (ha : EvA K ta G Mu0 Mu1 ss) (hm : F.m x = .ok w) (hk : okKs ks Mu1.length = true := by rfl) (hc : okC ks (s :: ss) = true := by rfl) (hi : F.ins x = (s :: ss).map (renC ks) := by rfl) (hC : selN none Mu1 ks = pinL ps (F.cells x) := by rfl) (hP : okP ps (F.cells x) = true := by rfl) (hr : F.out x w = .rf mv Mp := by rfl) (hp : Mp.length = ks.length := by rfl) {sp : Sp} (hsp : SpLe (spT K T F) sp := by exact fun _ _ _ _ h => h) :
    EvF K (tMethS (He.ga K cn) m sp Es te ta) G Mu (putAll Mu1 ks (pinL ps Mp)) mv := fun B σ S ls H Q sl hs q =>
  ho B σ S ls H _ sl hs fun v S0 l0 H0 a0 b0 c0 d0 => by
    obtain ⟨a, dx, fs, e1, e2, e3⟩ := hi0 B S0 l0 H0 v c0 d0
    refine ⟨a, dx, fs, e1, e2, e3, ha B σ S0 l0 H0 _ (sl.mono a0 b0) c0 fun vs S1 l1 H1 a1 b1 c1 d1 => ?_⟩
    refine hsp _ _ _ _ ?_
    refine sp_call c1 (.cons (SV.mono a1 b1 d0) d1) hk hc hi hC hP hm fun C back => ?_
    rw [hr]
    exact acc_rf c1 hp back (q.mono (a0.trans a1) (b0.trans b1))
theorem ex_meth (ho : EvV K te G Mu Mu0 s) (hi0 : IsIns K Mu0 s cn m) (ha : EvA K ta G Mu0 Mu1 ss) (hm : F.m x = .ok w) (hk : okKs ks Mu1.length = true := by rfl) (hc : okC ks (s :: ss) = true := by rfl) (hi : F.ins x = (s :: ss).map (renC ks) := by rfl) (hC : selN none Mu1 ks = pinL ps (F.cells x) := by rfl) (hP : okP ps (F.cells x) = true := by rfl) (hr : F.out x w = .ex y g0 Mp := by rfl) (hp : Mp.length = ks.length := by rfl) {sp : Sp} (hsp : SpLe (spT K W.T F) sp := by exact fun _ _ _ _ h => h) :
    EvX K W (tMethS (He.ga K cn) m sp (fun σ cls d H' => W.W cls d σ H') te ta) G Mu (putAll Mu1 ks (pinL ps Mp)) y := fun B σ S ls H Q sl hs q =>
  ho B σ S ls H _ sl hs fun v S0 l0 H0 a0 b0 c0 d0 => by
    obtain ⟨a, dx, fs, e1, e2, e3⟩ := hi0 B S0 l0 H0 v c0 d0
    refine ⟨a, dx, fs, e1, e2, e3, ha B σ S0 l0 H0 _ (sl.mono a0 b0) c0 fun vs S1 l1 H1 a1 b1 c1 d1 => ?_⟩
    refine hsp _ _ _ _ ?_
    refine sp_call c1 (.cons (SV.mono a1 b1 d0) d1) hk hc hi hC hP hm fun C back => ?_
    rw [hr]
    exact acc_ex c1 hp back (q.mono (a0.trans a1) (b0.trans b1))
/-- an argument, the receiver raises -/
theorem ex_meth1 {sp : Sp} {C : Addr} (ho : EvX K W te G Mu Mu1 y) : EvX K W (tMethS C m sp Es te ta) G Mu Mu1 y := fun B σ S ls H Q sl hs q => ho B σ S ls H _ sl hs q
theorem ex_meth2 {sp : Sp} (ho : EvV K te G Mu Mu0 s) (hi0 : IsIns K Mu0 s cn m) (ha : EvXA K W ta G Mu0 Mu1 y) : EvX K W (tMethS (He.ga K cn) m sp Es te ta) G Mu Mu1 y := fun B σ S ls H Q sl hs q =>
  ho B σ S ls H _ sl hs fun v S0 l0 H0 a0 b0 c0 d0 => by
    obtain ⟨a, dx, fs, e1, e2, e3⟩ := hi0 B S0 l0 H0 v c0 d0
    exact ⟨a, dx, fs, e1, e2, e3, ha B σ S0 l0 H0 _ (sl.mono a0 b0) c0 (q.mono a0 b0)⟩
theorem ex_make1 {sp : Sp} {C : Addr} (ha : EvXA K W ta G Mu Mu1 y) : EvX K W (tMakeS C sp Es ta) G Mu Mu1 y := fun B σ S ls H Q sl hs q => ha B σ S ls H _ sl hs q
end
/-! ### what is raised -/
def xaT : XA → TV
  | .int i => tv rInt i
  | .txt l => tv rTxt l
theorem xa_vals {K : PySem.W.Frag} {S : Hp} : ∀ {vs : List V} {as : List XA}, AllT K S vs (as.map xaT) → vs = as.map xaV
  | [], [], _ => rfl
  | [], _ :: _, h => nomatch h
  | _ :: _, [], h => nomatch h
  | v :: vs, .int i :: as, .cons r t => by
    have r : v = .int i := r
    rw [r, xa_vals t]
    rfl
  | v :: vs, .txt l :: as, .cons r t => by
    have r : v = .str ⟨l.toArray⟩ := r
    rw [r, xa_vals t]
    rfl
/-- what the __init__ of such a class does -/
def xSp (K : PySem.W.Frag) (D : XcD) : Sp := fun vs H Q _ => ∃ a ws, vs = V.ref a :: ws ∧ ws.length = D.fs.length ∧ OexC K (He.ga K D.cls) ∧ H a = some (exo a (He.ga K D.cls) none) ∧
  ∀ dx H', H dx = none → dx ≠ a → H' dx = some (exd dx (D.fs.zip ws).reverse) → H' a = some (exo a (He.ga K D.cls) (some dx)) → (∀ b, b ≠ a → b ≠ dx → H' b = H b) → Q .non H'
theorem xsp_len {K : PySem.W.Frag} {D : XcD} {n : Nat} (hn : D.fs.length = n) (vs : List V) (H : Hp) (Q : VK) (E : XK) (q : xSp K D vs H Q E) : vs.length = n + 1 := by
  obtain ⟨a, ws, e, l, _⟩ := q
  rw [e, List.length_cons, l, hn]
theorem xsp_body1 {K : PySem.W.Frag} {cn f : Str} {N : List Str} {vs : List V} {H : Hp} {Q : VK} {E : XK} (q : xSp K ⟨cn, [f]⟩ vs H Q E) (hf : PySem.W.findIn K (.ref (He.ga K cn)) f = some none) (hN : N.length = 2) :
    tSeq (tDrop (tVeI K (tCons (tVar 0) (tCons (tVar 1) tNil)))) (tSeq (tOst K f (tVar 0) (tVar 1)) tNext) { nx := fun _ H' => Q .non H', rt := Q } (L2.start N vs) H := by
  obtain ⟨a, ws, e, l, T, ea, k⟩ := q
  subst e
  match ws, l with
  | [w1], _ =>
    refine ⟨_, rfl, _, rfl, a, _, [w1], rfl, by show 1 ≤ 1000; decide, T, ea, _, rfl, _, rfl, a, _, rfl, T, hf, .inl ⟨ea, fun dx n ne => ?_⟩⟩
    refine k dx _ n ne ?_ upd_same fun b b1 b2 => ?_
    · rw [upd_ne ne]
      exact upd_same
    · rw [upd_ne b1, upd_ne b2]
theorem xsp_body2 {K : PySem.W.Frag} {cn f g : Str} {N : List Str} {vs : List V} {H : Hp} {Q : VK} {E : XK} (q : xSp K ⟨cn, [f, g]⟩ vs H Q E) (hf : PySem.W.findIn K (.ref (He.ga K cn)) f = some none) (hg : PySem.W.findIn K (.ref (He.ga K cn)) g = some none) (hN : N.length = 3) :
    tSeq (tDrop (tVeI K (tCons (tVar 0) (tCons (tVar 1) (tCons (tVar 2) tNil))))) (tSeq (tOst K f (tVar 0) (tVar 1)) (tSeq (tOst K g (tVar 0) (tVar 2)) tNext)) { nx := fun _ H' => Q .non H', rt := Q } (L2.start N vs) H := by
  obtain ⟨a, ws, e, l, T, ea, k⟩ := q
  subst e
  match ws, l with
  | [w1, w2], _ =>
    refine ⟨_, rfl, _, rfl, _, rfl, a, _, [w1, w2], rfl, by show 2 ≤ 1000; decide, T, ea, _, rfl, _, rfl, a, _, rfl, T, hf, .inl ⟨ea, fun dx n ne => ?_⟩⟩
    refine ⟨_, rfl, _, rfl, a, _, rfl, T, hg, .inr ⟨dx, [(f, w1)], upd_same, by rw [upd_ne ne]; exact upd_same, by show 1 ≤ 900; decide, ?_⟩⟩
    refine k dx _ n ne upd_same ?_ fun b b1 b2 => ?_
    · rw [upd_ne (Ne.symm ne)]
      exact upd_same
    · rw [upd_ne b2, upd_ne b1, upd_ne b2]
section
variable {ω : Type} {K : PySem.W.Frag} {W : Xw} {np : Nat} {G : Gm} {Mu Mu1 : Mm} {ta : TA} {ss : List SV} {x : Xc} {u : TS}
theorem xs_raise {D : XcD} (ha : EvA K ta G Mu Mu1 ss) (es : ss = (x.args.map xaT).map .val) (hD : W.T[x.cls]? = some D) (hl : D.fs.length = x.args.length) (h8 : Nat.ble x.args.length 1000 = true) (hO : OexC K (He.ga K D.cls)) :
    EvXS K W (tSeq (fun _ σ H => tMkO (He.ga K D.cls) (xSp K D) [] ta σ H fun cls d H' => W.W cls d σ H') u) G Mu Mu1 x := fun B σ S ls H D' sl hs q =>
  ha B σ S ls H _ sl hs fun vs S1 l1 H1 a1 b1 c1 d1 => by
    subst es
    have r := allS_vals d1
    have ev := xa_vals r
    have h8 := Nat.le_of_ble_eq_true h8
    refine ⟨by rw [Paired.length r, List.length_map]; exact h8, fun a na => ?_⟩
    refine ⟨a, vs, by rw [List.append_nil], by rw [Paired.length r, List.length_map, hl], hO, upd_same, fun dx H' n ne e1 e2 e3 => ?_⟩
    have n1 : H1 dx = none := by rw [upd_ne ne] at n; exact n
    refine ⟨rfl, dx, _, e2, e1, n1, ?_⟩
    have eH : upd (del H' a) dx (.xd (D.fs.zip vs).reverse) = upd H1 dx (.xd (D.fs.zip vs).reverse) := by
      funext b
      by_cases hb : b = dx
      · rw [hb, upd_same, upd_same]
      · rw [upd_ne hb, upd_ne hb]
        by_cases ha : b = a
        · rw [ha, del_same, na]
        · rw [del_ne ha, e3 b ha hb, upd_ne ha]
    rw [eH]
    obtain ⟨s2, h2⟩ := c1.laid (o := .xd (D.fs.zip vs).reverse) n1
    exact q _ l1 _ _ _ (a1.trans s2) b1 h2 ⟨D, dx, hD, rfl, rfl, hl, by rw [← ev]; exact upd_same⟩
end
/-! ### try -/
/-- the caught exception, in its slot -/
def tX (T : List XcD) (a : Addr) (x : Xc) (cls : Value) (d : Option Addr) : TV := ⟨fun K S v => v = .ref a ∧ XIs K T S x cls d, fun h q => ⟨q.1, q.2.mono h⟩⟩
/-- what a try's body comes to -/
def tnK {τ ε ω : Type} (g : τ → Gm) (mu : τ → Mm) (gx : ε → Gm) (mx : ε → Mm) (κ : ω → OS) : Tn τ ε ω → OS
  | .go s => .nx (g s) (mu s)
  | .out w => inner κ w
  | .exc x c => .ex x (some (gx c)) (mx c)
theorem Sl.wipe1 {K : PySem.W.Frag} {S : Hp} {ls : List Addr} {σ : L2.St} {G : Gm} {i : Nat} (q : Sl K S ls σ G) (h : G[i]? = some none) : Sl K S ls (σ.set i none) G :=
  ⟨by rw [List.length_set]; exact q.1, fun j s e => by
    by_cases hj : i = j
    · subst hj
      rw [h] at e
      cases e
    · obtain ⟨v, e1, e2⟩ := q.2 j s e
      exact ⟨v, by rw [List.getElem?_set_ne hj]; exact e1, e2⟩⟩
/-- outcomes of a clause: nothing raised; the name i, if there is one, without a value -/
def offO (i : Option Nat) : OS → Prop
  | .nx G _ => ∀ j, i = some j → G[j]? = some none
  | .bk G _ => ∀ j, i = some j → G[j]? = some none
  | .ct G _ => ∀ j, i = some j → G[j]? = some none
  | .ex _ _ _ => False
  | .vd _ => False
  | _ => True
def offD (i : Option Nat) (D : Ends) : Ends := match i with
  | none => D
  | some i => offE i D
section
variable {τ ε ω ω' : Type} {K : PySem.W.Frag} {W : Xw} {np : Nat} {G : Gm} {Mu : Mm} {κ : ω → OS} {κ' : ω' → OS} {emb : ω' → ω} {u : TS}
theorem acc_noW {W W' : Xw} {B : Bs} {S : Hp} {ls : List Addr} {D : Ends} {i : Option Nat} : ∀ {o : OS}, offO i o → Acc K W B S ls D o → Acc K W' B S ls D o
  | .nx _ _, _, q => q
  | .bk _ _, _, q => q
  | .ct _ _, _, q => q
  | .rt _ _, _, q => q
  | .rf _ _, _, q => q
  | .rn _, _, q => q
  | .vd _, h, _ => h.elim
  | .ex _ _ _, h, _ => h.elim
  | .never, _, _ => trivial
theorem acc_off {W W' : Xw} {B : Bs} {S : Hp} {ls : List Addr} {D : Ends} {i : Option Nat} {o : OS} (h : offO i o) (q : Acc K W B S ls D o) : Acc K W' B S ls (offD i D) o := by
  cases i with
  | none => exact acc_noW h q
  | some i =>
    cases o with
    | nx a b => exact fun σ' S' ls' H' z y c d => q _ S' ls' H' z y (c.wipe1 (h i rfl)) d
    | bk a b => exact fun σ' S' ls' H' z y c d => q _ S' ls' H' z y (c.wipe1 (h i rfl)) d
    | ct a b => exact fun σ' S' ls' H' z y c d => q _ S' ls' H' z y (c.wipe1 (h i rfl)) d
    | rt a b => exact q
    | rf a b => exact q
    | vd a => exact h.elim
    | rn a => exact q
    | ex a b c => exact h.elim
    | never => trivial
theorem Cmp.takeR {a b : List Addr} (h : Cmp a b) (n : Nat) : Cmp a (b.take n) := fun k x e l => by
  rw [List.length_take] at l
  rw [List.getElem?_take_of_lt (by omega)]
  exact h k x e (by omega)
/-- the clauses, one after the other -/
inductive EvH (K : PySem.W.Frag) (W : Xw) (np : Nat) (κ : ω → OS) (κ' : ω' → OS) (emb : ω' → ω) (g : τ → Gm) (mu : τ → Mm) (gx : ε → Gm) (mx : ε → Mm) (k : τ → Mr ω) : List HD → (Xc → ε → Mr ω) → Prop
  | nil {ho : Xc → ε → Mr ω} (hu : ∀ x e w, ho x e = .ok w → ∃ g0 Mp Mj, κ w = .ex x g0 Mp ∧ mx e = Mp ++ Mj ∧ GSubO g0 (gx e)) : EvH K W np κ κ' emb g mu gx mx k [] ho
  | cons {c : Value} {i : Option Nat} {ts : Addr → Value → Option Addr → TS} {l : List HD} {ho : Xc → ε → Mr ω} {hx : Xc → ε → Mr (Jn τ ω')} (cc : Nat → Bool) (hc : ∀ (n : Nat) (D : XcD), W.T[n]? = some D → PySem.W.exmOne K (.ref (He.ga K D.cls)) c = some (cc n))
      (hs : ∀ x e a cls d, cc x.cls = true → EvB K W np (ts a cls d) (match i with | none => gx e | some i => (gx e).set i (some (.val (tX W.T a x cls d)))) (mx e) (jnK g mu κ') (hx x e)) (hoff : ∀ s, offO i (.nx (g s) (mu s))) (hoffw : ∀ w, offO i (inner κ' w))
      (r : EvH K W np κ κ' emb g mu gx mx k l ho) : EvH K W np κ κ' emb g mu gx mx k ((c, i, ts) :: l) (fun x e => if cc x.cls = true then hx x e >>= Jn.kE emb k else ho x e)
theorem eb_try {g : τ → Gm} {mu : τ → Mm} {gx : ε → Gm} {mx : ε → Mm} {tb : WX → TS} {l : List HD} {mb : Mr (Tn τ ε ω')} {k : τ → Mr ω} {ho : Xc → ε → Mr ω}
    (hb : ∀ W', EvB K ⟨W.T, W'⟩ np (tb W') G Mu (tnK g mu gx mx κ') mb) (hh : EvH K W np κ κ' emb g mu gx mx k l ho) (hk : ∀ w, κ' w = κ (emb w)) (hoffb : ∀ w, offO none (inner κ' w))
    (hcl : ∀ e, cellsOk (mx e).length (gx e) = true) (hnp : ∀ e, np ≤ (mx e).length) (hlen : ∀ s, Mu.length ≤ (mu s).length) (hlx : ∀ e, Mu.length ≤ (mx e).length) (hle : ∀ s e, (mx e).length ≤ (mu s).length)
    (hR : ∀ s, EvB K W np u (g s) (mu s) κ (k s)) :
    EvB K W np (tSeq (tTryH K W.W l tb) u) G Mu κ (mb >>= Tn.k emb k ho) := fun B σ S ls H D w hn sl hs0 e q => by
  obtain ⟨r, e1, e2⟩ := bind_ok e
  have rest : ∀ s σ' S' ls' H', Same S S' → Pre ls ls' → Sl K S' ls' σ' (g s) → HS K B S' ls' (mu s) H' → k s = .ok w → u D σ' H' := fun s σ' S' ls' H' a b c d ek => hR s B σ' S' ls' H' D w hn c d ek (q.mono a b)
  have qin : ∀ w', emb w' = w → Acc K W B S ls { D with nx := u D } (inner κ' w') := fun w' ew => by
    subst ew
    have := acc_inn (D := D) (D' := { D with nx := u D }) rfl rfl rfl q
    unfold inner
    rw [hk w']
    exact this
  refine hb _ B σ S ls H _ r hn sl hs0 e1 ?_
  cases r with
  | go s =>
    intro σ' S' ls' H' sa cm sl' hs'
    exact rest s σ' S' ls' H' sa (cm.to_pre (by rw [hs0.len, hs'.len]; exact hlen s)) sl' hs' e2
  | out w' =>
    cases e2
    exact acc_noW (hoffb w') (qin w' rfl)
  | exc x ex =>
    intro σ' S' ls' H' cls d Mj sa cm hg hs' hxi
    have sl' := hg _ rfl
    obtain ⟨D0, a0, f1, f2, f3, f4, f5⟩ := id hxi
    have hB0 : B.L0.length ≤ (mx ex).length := by rw [hn]; exact hnp ex
    have hT := hs'.trunc hB0
    have slT := sl'.trunc (hcl ex)
    have prT : Pre ls (ls'.take (mx ex).length) := (Cmp.takeR cm (mx ex).length).to_pre (by rw [hs0.len, hT.len]; exact hlx ex)
    have e2 : ho x ex = .ok w := e2
    clear hb e1 e
    induction hh with
    | @nil ho hu =>
      obtain ⟨g0, Mp, Mj', h2, h3, h4⟩ := hu x ex w e2
      rw [h2] at q
      refine q σ' S' ls' H' _ d (Mj' ++ Mj) sa cm (fun G' eg => ?_) (by rw [← List.append_assoc, ← h3]; exact hs') hxi
      subst eg
      exact sl'.sub h4
    | @cons c i ts l ho hx cc hc hs hoff hoffw r ih =>
      have hcc := hc x.cls D0 f1
      have e2 : (if cc x.cls = true then hx x ex >>= Jn.kE emb k else ho x ex) = .ok w := e2
      refine ⟨cc x.cls, by rw [f2]; exact hcc, fun ct a na => ?_, fun cf => ?_⟩
      · rw [if_pos ct] at e2
        obtain ⟨j, j1, j2⟩ := bind_ok e2
        have acc : Acc K W B S' (ls'.take (mx ex).length) (offD i { D with nx := u D }) (jnK g mu κ' j) := by
          cases j with
          | go s =>
            refine acc_off (W := W) (hoff s) ?_
            intro σ2 S2 l2 H2 sa2 cm2 sl2 hs2
            exact rest s _ S2 l2 H2 (sa.trans sa2) (prT.trans (cm2.to_pre (by rw [hT.len, hs2.len]; exact hle s ex))) sl2 hs2 j2
          | out w' =>
            cases j2
            exact acc_off (W := W) (hoffw w') ((qin w' rfl).mono sa prT)
        have main := hs x ex a cls d ct B
        cases i with
        | none => exact main σ' S' _ H' _ j hn slT hT j1 acc
        | some i => exact main _ S' _ H' _ j hn (slT.set (s := .val (tX W.T a x cls d)) ⟨rfl, hxi⟩) hT j1 acc
      · rw [if_neg (by rw [cf]; exact Bool.false_ne_true)] at e2
        exact ih e2 hxi f1 e2
end
end TL

/-! TLt: the start; more rules -/
namespace TL
open PySem PySem.Spec PyProof.Rows L2
theorem HS.start0 {K : PySem.W.Frag} {H : Hp} : HS K ⟨H, H, [], fun _ => False⟩ H [] [] H :=
  ⟨Same.refl _, Same.refl _, fun _ _ e => .inl e, fun _ _ e _ => e, Pre.refl _, fun _ h => h.elim, rfl, ⟨fun _ _ => False, fun _ _ _ h => h.elim, fun _ _ h => h.elim, fun k m e => by simp at e, fun _ _ h => h.elim, fun _ _ h => h.elim, fun _ _ h => h.elim⟩⟩
end TL

/-! TLu: texts -/
namespace TL
open PySem PySem.Spec PyProof.Rows L2
/-! ### list(text) -/
section
variable {prog : Program} {w : World} {A : Around} {E : Value → Shared → Prop} {s : Shared} {z : Str} {t : Tok}
theorem hint_text {Q : Bool → Shared → Prop} (q : Q false s) : wpAny (model prog w) A (Builtin.List.listLengthHint (.str z t)) Q E s := by
  have hT : s.TypeIs (.str z t) "str" := typeIs_str s z t
  unfold Builtin.List.listLengthHint
  refine wpAny_bind (wpAny_specialOf hT PySem.F.slot_str_len.lookup ?_)
  generalize hid : ("str.__len__" : String) = id0
  wp_delta
  rw [show splitId id0 = some ("str", "__len__") from by subst hid; decide +kernel]
  subst hid
  refine wpAny_bind (wpAny_isInstance (T := "str") (b := true) hT (by rw [isSubtype_type]; kernel_rfl) ?_)
  refine wpAny_ite_split (fun c => absurd c (by decide)) (fun _ => ?_)
  refine wpAny_ite_split (fun _ => ?_) (fun c => absurd (by decide +kernel) c)
  exact wpAny_bind (wpAny_typeOf hT (wpAny_pure q))
theorem extend_text {R : Result → Shared → Prop} (hh : A.handled = none) (S : Addr) (c₀ : Nat) (hS : s.heap.get? S = some { cls := .type "list", data := .seq #[] c₀ }) (hn : z.cps.size ≤ sizeLine)
    (hR : ∀ h' tk a c, (∀ b o, b ≠ S → s.heap.get? b = some o → h'.get? b = some o) → h'.get? S = some { cls := .type "list", dict := none, data := .seq a c, slots := #[] } → ItemsOf (SignAt z) a z.cps.size → R (.ok (.ret .none)) { s with heap := h', toks := tk }) :
    wpAny (model prog w) A.in1 (Builtin.List.listExtendWith (.ref S) (.str z t) .none)
      (fun fin s' => match fin with
        | .done f => R (.ok f) s'
        | .again c' => c'.quiet = true ∧ codeAny (model prog w) A c' R s') (fun e s' => R (.error e) s') s := by
  have hI : S ≠ s.heap.objs.size := Nat.ne_of_lt (Heap.lt_size hS)
  have hF : S ∉ [s.heap.objs.size] := fun c => hI (List.mem_singleton.mp c)
  unfold Builtin.List.listExtendWith
  refine wpAny_bind (wpAny_typeOf (T := "str") (typeIs_str s z t) ?_)
  have e1 : Builtin.List.listSameRef (.ref S) (.str z t) = false := rfl
  have e2 : (Value.type "str" == Value.type "list") = false := by decide
  have e3 : (Value.type "str" == Value.type "tuple") = false := by decide
  simp only [e1, e2, e3, Bool.or_false, Bool.false_eq_true, if_false]
  refine wpAny_bind (wpAny_pyIter_str fun oI St W st => ?_)
  have hW := W A.in1.in1 hh
  have go : ∀ (h : Heap) (c₁ tk : Nat), St 0 h → (∀ b o, b ≠ S → s.heap.get? b = some o → h.get? b = some o) →
      h.get? S = some { cls := .type "list", data := .seq #[] c₁ } → codeAny (model prog w) A (.builtin "list.extend.loop" ⟨[.ref S, .ref s.heap.objs.size, .none], []⟩) R { s with heap := h, toks := tk } := by
    intro h c₁ tk h0 hk h1
    refine codeAny_extend_loopS (W A.in1 hh).toS hn S hF .none _ 0 _ #[] c₁ rfl (Nat.zero_le _) h0 h1 (ItemsOf.nil _) fun s' a c hm h2 ha => ?_
    rw [Moved.eq_with hm]
    refine hR s'.heap s'.toks a c (fun b o hb e => hm.heap b o (fun hmem => ?_) (hk b o hb e)) h2 ha
    rcases List.mem_cons.mp hmem with e' | hmem
    · exact hb e'
    · have := Heap.lt_size e
      rw [List.mem_singleton.mp hmem] at this
      exact Nat.lt_irrefl _ this
  have h1 := Heap.get?_push_of_some oI hS
  refine wpAny_bind (wpAny_holding (hint_text ?_))
  refine wpAny_ite_split (fun _ => ?_) (fun _ => wpAny_pure ⟨plainId_quiet PySem.F.plain_extend_loop _, go _ c₀ _ st (fun b o _ e => Heap.get?_push_of_some _ e) h1⟩)
  refine wpAny_bind (wpAny_rule ?_)
  refine wpAny_bind ?_
  show wpAny _ _ (updateSeq S (·.push .none) >>= fun _ => updateSeq S (·.pop)) _ _ _
  refine wpAny_bind (wpAny_updateSeq h1 rfl ?_)
  have h2 := Heap.get?_update_self (Obj.mapSeq (·.push Value.none)) h1 rfl
  refine wpAny_updateSeq (hz := by seq_fits) h2 rfl ?_
  have h3 := Heap.get?_update_self (Obj.mapSeq (·.pop)) h2 rfl
  refine wpAny_pure ⟨plainId_quiet PySem.F.plain_extend_loop _, go _ _ _ ?_ (fun b o hb e => ?_) h3⟩
  · refine (W A.in1 hh).frame 0 _ _ st fun b hb o e => ?_
    have ne : S ≠ b := fun c => hF (c ▸ hb)
    rw [Heap.get?_update_other _ _ ne, Heap.get?_update_other _ _ ne]
    exact e
  · rw [Heap.get?_update_other _ _ (Ne.symm hb), Heap.get?_update_other _ _ (Ne.symm hb)]
    exact Heap.get?_push_of_some _ e
theorem init_text {R : Result → Shared → Prop} (hh : A.handled = none) (S : Addr) (hS : s.heap.get? S = some { cls := .type "list", data := .seq #[] }) (hn : z.cps.size ≤ sizeLine)
    (hR : ∀ h' tk a c, (∀ b o, b ≠ S → s.heap.get? b = some o → h'.get? b = some o) → h'.get? S = some { cls := .type "list", dict := none, data := .seq a c, slots := #[] } → ItemsOf (SignAt z) a z.cps.size → R (.ok (.ret .none)) { s with heap := h', toks := tk }) :
    wpAny (model prog w) A.in1 (Builtin.«list.__init__» ⟨[.ref S, .str z t], []⟩)
      (fun fin s' => match fin with
        | .done f => R (.ok f) s'
        | .again c' => c'.quiet = true ∧ codeAny (model prog w) A c' R s') (fun e s' => R (.error e) s') s := by
  show wpAny _ _ (Builtin.List.listItems (.ref S) >>= fun old => Builtin.List.listUpdate (.ref S) (fun _ => #[]) >>= fun _ => letGo old.toList.reverse >>= fun _ => Builtin.List.listExtendWith (.ref S) (.str z t) .none) _ _ s
  refine wpAny_bind ?_
  unfold Builtin.List.listItems
  refine wpAny_bind (wpAny_seqItems hS rfl (wpAny_pure ?_))
  show wpAny _ _ (updateSeq S (fun _ => #[]) >>= fun _ => letGo (#[] : Array Value).toList.reverse >>= fun _ => Builtin.List.listExtendWith (.ref S) (.str z t) .none) _ _ s
  refine wpAny_bind (wpAny_updateSeq hS rfl ?_)
  have h2 := Heap.get?_update_self (Obj.mapSeq (fun _ => (#[] : Array Value))) hS rfl
  refine wpAny_bind (wpAny_letGo ?_)
  refine extend_text hh S _ h2 hn fun h' tk a c hk h3 ha => hR h' tk a c (fun b o hb e => hk b o hb ?_) h3 ha
  rw [Heap.get?_update_other _ _ (Ne.symm hb)]
  exact e
theorem list_text {Q : Value → Shared → Prop} (hh : A.handled = none) (hn : z.cps.size ≤ sizeLine)
    (hQ : ∀ h' tk a c, (∀ b o, s.heap.get? b = some o → h'.get? b = some o) → h'.get? s.heap.objs.size = some { cls := .type "list", dict := none, data := .seq a c, slots := #[] } → ItemsOf (SignAt z) a z.cps.size → Q (.ref s.heap.objs.size) { s with heap := h', toks := tk }) :
    wpAny (model prog w) A (call (.type "list") [.str z t]) Q E s := by
  refine callType_codes (Q₁ := fun obj s₁ => obj = .ref s.heap.objs.size ∧ s₁ = { s with heap := s.heap.push { cls := .type "list", data := .seq #[] } }) PySem.F.called_list (PySem.F.typeCall_list_1 _) PySem.F.entry_list_init
    (code_list_new _ ⟨rfl, rfl⟩) fun obj s₁ h₁ => ?_
  obtain ⟨rfl, rfl⟩ := h₁
  have hS : (s.heap.push { cls := .type "list", data := .seq #[] }).get? s.heap.objs.size = some { cls := .type "list", data := .seq #[] } := Heap.get?_push_size _ rfl
  refine ⟨⟨_, hS, rfl⟩, PySem.F.args_list_init_2 _ _, init_text (A := A.in1) hh _ hS hn fun h' tk a c hk h2 ha => ⟨rfl, hQ h' tk a c (fun b o e => ?_) h2 ha⟩⟩
  exact hk b o (Nat.ne_of_lt (Heap.lt_size e)) (Heap.get?_push_of_some _ e)
end
def rListX : List V → Hp → VK → Prop := fun xs H Q => ∃ z, xs = [.str z] ∧ z.cps.size ≤ sizeLine ∧ ∀ p, H p = none → Q (.ref p) (upd H p (.lst (z.cps.toList.map fun c => V.str ⟨#[c]⟩)))
theorem call_list_txt {X : Cx} (hc : X.calm = true) : CallR X (.type "list") rListX := by
  intro pins s σ H xs us Q I r h
  obtain ⟨z, e, hz, q⟩ := h
  subst e
  obtain ⟨u, eu, t, et⟩ := vals1 r
  subst eu et
  refine list_text (I.ok.hd hc) hz fun h' tk a c hk hS ha => ?_
  refine ⟨.ref s.heap.objs.size, upd H s.heap.objs.size (.lst (z.cps.toList.map fun c => V.str ⟨#[c]⟩)), I.laid hk (Nat.le_refl _) (show ObjOk X.prog X.w _ _ _ (.lst (z.cps.toList.map fun c => V.str ⟨#[c]⟩)) from ⟨?_, a.toList, c, ?_, ?_⟩), rfl, q _ (I.hok.fresh (Nat.le_refl _))⟩
  · rw [List.length_map, Array.length_toList]
    exact hz
  · refine vals_of_at (by rw [List.length_map, Array.length_toList, Array.length_toList, ha.1]) fun j x w h1 h2 => ?_
    obtain ⟨k, y, hky, hi⟩ := ha.2 j w (by rw [← Array.getElem?_toList]; exact h2)
    rw [List.getElem?_map, Array.getElem?_toList, hky] at h1
    cases h1
    subst hi
    exact ⟨y, rfl⟩
  · rw [Array.toArray_toList]
    exact hS
/-! ### the kit's texts -/
abbrev sX (l : List Nat) : Str := ⟨l.toArray⟩
theorem sX_len {l : List Nat} : (sX l).length = l.length := by simp [sX, Str.length]
theorem sX_app {a b : List Nat} : sX a ++ sX b = sX (a ++ b) := by
  show Str.append (sX a) (sX b) = _
  unfold Str.append sX
  simp
theorem sX_cps {l : List Nat} : (sX l).cps.toList = l := by simp [sX]
section
variable {K : PySem.W.Frag} {G : Gm} {Mu Mu1 Mu2 Mu3 : Mm} {te to : TE} {a b : List Nat} {ta : TA}
theorem catOk_of {α β : Type} {xs : List α} {ys : List β} {r : Unit} (h : catOk xs ys = .ok r) : xs.length + ys.length ≤ 16777216 := by
  unfold catOk at h
  split at h
  · assumption
  · cases h
theorem sizeP_of {α : Type} {xs : List α} {r : Unit} (h : sizeP xs = .ok r) : xs.length ≤ 16777216 := by
  unfold sizeP at h
  split at h
  · assumption
  · cases h
theorem repOk_of {α : Type} {xs : List α} {n : Int} {r : Unit} (h : repOk xs n = .ok r) : -(2 ^ 63) ≤ n ∧ n < 2 ^ 63 ∧ xs.length * n.toNat ≤ 16777216 := by
  unfold repOk at h
  split at h
  · assumption
  · cases h
theorem all_chars {S : Hp} : ∀ l : List Nat, AllT K S (l.map fun c => V.str ⟨#[c]⟩) ((l.map fun c => [c]).map (tv rTxt))
  | [] => .nil
  | c :: l => .cons rfl (all_chars l)
theorem rv_catX {r : Unit} (h : catOk a b = .ok r) : Rv K (fun x y H Q => ∃ i j, x = .str i ∧ y = .str j ∧ i.length + j.length ≤ sizeLine ∧ Q (.str (i ++ j)) H) Mu Mu (vX a) (vX b) (vX (a ++ b)) := rv_same fun B S ls H x y Q hs ha hb q => by
  have z := catOk_of h
  refine ⟨sX a, sX b, ha, hb, by rw [sX_len, sX_len]; exact z, q _ ?_⟩
  show _ = V.str _
  rw [sX_app]
theorem rv_ixX {i : Int} {c : Nat} {r : Unit} (hz : sizeP a = .ok r) (h : getI a i = .ok c) : Rv K rIxS Mu Mu (vX a) (vI i) (vX [c]) := rv_same fun B S ls H x y Q hs ha hb q => by
  refine ⟨sX a, i, c, ha, hb, by rw [sX_len]; exact sizeP_of hz, ?_, q _ rfl⟩
  rw [sX_cps]
  exact getI_ok h
theorem ev_slX {tl th : TO} {lo hi : Option Int} {r : Unit} (h : EvV K te G Mu Mu1 (vX a)) (hl : EvO K tl G Mu1 Mu2 lo) (hh : EvO K th G Mu2 Mu3 hi) (hz : sizeP a = .ok r) : EvV K (tSl rSlS te tl th) G Mu Mu3 (vX (cut a lo hi)) := fun B σ S ls H Q sl hs q =>
  h B σ S ls H _ sl hs fun x S1 l1 H1 a1 b1 c1 d1 => hl B σ S1 l1 H1 _ (sl.mono a1 b1) c1 fun S2 l2 H2 a2 b2 c2 => hh B σ S2 l2 H2 _ ((sl.mono a1 b1).mono a2 b2) c2 fun S3 l3 H3 a3 b3 c3 => by
    refine ⟨sX a, d1, by rw [sX_len]; exact sizeP_of hz, q _ S3 l3 H3 (a1.trans (a2.trans a3)) (b1.trans (b2.trans b3)) c3 ?_⟩
    show V.str _ = V.str _
    unfold cutS cut
    rw [sX_len, sX_cps, sIxQ_eq, sIxQ_eq]
theorem rc_lenX {r : Unit} (hz : sizeP a = .ok r) : Rc K (fun xs H Q => ∃ z, xs = [.str z] ∧ z.length ≤ sizeLine ∧ Q (.int z.length) H) Mu Mu [vX a] (vI (a.length : Int)) := rc_same fun B S ls H vs Q hs ha q => by
  cases ha with
  | cons h1 h2 =>
    cases h2
    refine ⟨sX a, by rw [h1], by rw [sX_len]; exact sizeP_of hz, q _ ?_⟩
    show V.int _ = V.int _
    rw [sX_len]
theorem rcF_listX {r : Unit} (hz : sizeP a = .ok r) : RcF K rListX Mu Mu [vX a] (mL ((a.map fun c => [c]).map (tv rTxt))) := fun B S ls H vs Q hs ha q => by
  cases ha with
  | cons h1 h2 =>
    cases h2
    refine ⟨sX a, by rw [h1], by show (sX a).length ≤ _; rw [sX_len]; exact sizeP_of hz, fun p hp => ?_⟩
    rw [sX_cps]
    exact new_lst hs hp (by rw [List.length_map]; exact sizeP_of hz) (all_chars a) q
end
/-! ### text * number -/
def rRepX : R2 := fun x y H Q => ∃ z n, x = .str z ∧ y = .int n ∧ MulOk z n ∧ Q (.str (Txt.mul z n)) H
theorem op_mul_txt {X : Cx} : OpR X (binaryOp .Mult) rRepX := by
  intro pins s σ H x y v u Q I rx ry h
  obtain ⟨z, n, e1, e2, ok, q⟩ := h
  subst e1 e2
  obtain ⟨t, rfl⟩ := rx
  obtain ⟨t', rfl⟩ := ry
  exact SB.mul ok fun t2 tk => ⟨.str (Txt.mul z n), H, I.tok _, ⟨_, rfl⟩, q⟩
theorem fold_app : ∀ (n : Nat) (a : List Nat) (acc : List Nat), ((List.replicate n a.toArray).foldl (· ++ ·) acc.toArray) = (acc ++ (List.replicate n a).flatten).toArray
  | 0, a, acc => by simp
  | n + 1, a, acc => by
    rw [List.replicate_succ, List.replicate_succ, List.foldl_cons, List.flatten_cons, ← List.append_assoc, ← fold_app n a (acc ++ a)]
    simp
theorem mul_sX {a : List Nat} {n : Int} : Txt.mul (sX a) n = sX (repL a n) := by
  unfold Txt.mul repL
  by_cases h : n < 1
  · rw [if_pos h]
    have : n.toNat = 0 := by omega
    rw [this]
    rfl
  · rw [if_neg h]
    by_cases h2 : (n == 1 || (sX a).length == 0) = true
    · rw [if_pos h2]
      rcases Bool.or_eq_true_iff.mp h2 with h3 | h3
      · have : n = 1 := by simpa using h3
        subst this
        show sX a = sX ((List.replicate 1 a).flatten)
        simp
      · rw [sX_len] at h3
        have : a = [] := by simpa using h3
        subst this
        simp
    · rw [if_neg h2]
      have := fold_app n.toNat a []
      rw [List.nil_append] at this
      show (⟨_⟩ : Str) = ⟨_⟩
      congr 1
theorem mulOk_of {a : List Nat} {n : Int} {r : Unit} (h : repOk a n = .ok r) : MulOk (sX a) n := by
  obtain ⟨h1, h2, h3⟩ := repOk_of h
  refine ⟨?_, fun h4 _ => ?_, fun _ _ => ?_⟩
  · rw [decide_eq_false (by omega), decide_eq_false (by omega)]
    rfl
  · rw [sX_len]
    have e : ((a.length * n.toNat : Nat) : Int) = (a.length : Int) * n := by
      rw [Int.natCast_mul]
      congr 1
      omega
    have h5 : (a.length : Int) * n ≤ 2 ^ 63 - 1 := by omega
    have := (Int.le_ediv_iff_mul_le (show 0 < n by omega)).mpr h5
    omega
  · rw [sX_len]
    unfold Builtin.Str.tooLong
    simp only [decide_eq_false_iff_not]
    have : sizeLine = 16777216 := rfl
    omega
section
variable {K : PySem.W.Frag} {G : Gm} {Mu Mu1 Mu2 Mu3 : Mm} {te to : TE} {a b : List Nat} {c : Nat} {s : SV}
theorem rv_repX {n : Int} {r : Unit} (h : repOk a n = .ok r) : Rv K rRepX Mu Mu (vX a) (vI n) (vX (repL a n)) := rv_same fun B S ls H x y Q hs ha hb q => by
  refine ⟨sX a, n, ha, hb, mulOk_of h, q _ ?_⟩
  show V.str _ = V.str _
  rw [mul_sX]
/-! ### join -/
theorem fold_join (sep : List Nat) : ∀ (ps : List (List Nat)) (acc : List Nat), ((ps.map sX).foldl (fun acc p => acc ++ (sX sep).cps ++ p.cps) acc.toArray) = (acc ++ (ps.map fun q => sep ++ q).flatten).toArray
  | [], acc => by simp
  | p :: ps, acc => by
    have := fold_join sep ps (acc ++ sep ++ p)
    rw [List.map_cons, List.foldl_cons, List.map_cons, List.flatten_cons, ← List.append_assoc, ← List.append_assoc, ← this]
    simp [sX]
theorem join_sX {sep : List Nat} {ys : List (List Nat)} : Txt.join (sX sep) (ys.map sX) = sX (joinX sep ys) := by
  cases ys with
  | nil => rfl
  | cons p ps =>
    show (⟨_⟩ : Str) = ⟨_⟩
    congr 1
    exact fold_join sep ps p
theorem all_txts {S : Hp} : ∀ {vs : List V} {ys : List (List Nat)}, AllT K S vs (ys.map (tv rTxt)) → vs = (ys.map sX).map V.str
  | _, [], .nil => rfl
  | _, y :: ys, .cons h r => by
    have h : _ = V.str _ := h
    rw [h, all_txts r]
    rfl
def rJoin (K : PySem.W.Frag) : V → List V → Hp → VK → Prop := fun x xs H Q => ∃ a p, ∃ ys : List Str, x = .str a ∧ xs = [.ref p] ∧ (SqL K H p (ys.map V.str) ∨ SqT K H p (ys.map V.str)) ∧ (ys.map (·.length)).sum + ys.length * a.length ≤ 16777216 ∧ Q (.str (Txt.join a ys)) H
theorem ev_joinX {ys : List (List Nat)} {kd : Knd} {r : Unit} (ho : EvV K to G Mu Mu1 (vX a)) (he : EvV K te G Mu1 Mu2 s) (hs0 : IsSq K Mu2 s kd (ys.map (tv rTxt))) (hz : joinOk a ys = .ok r) : EvV K (tM1 (rJoin K) to te) G Mu Mu2 (vX (joinX a ys)) := fun B σ S ls H Q sl hs q =>
  ho B σ S ls H _ sl hs fun x S1 l1 H1 a1 b1 c1 d1 => ⟨⟨sX a, d1⟩, he B σ S1 l1 H1 _ (sl.mono a1 b1) c1 fun y S2 l2 H2 a2 b2 c2 d2 => by
    obtain ⟨p, vs, e, sq, l, r⟩ := hs0 B S2 l2 H2 y c2 d2
    have ev := all_txts r
    subst ev
    refine ⟨sX a, p, ys.map sX, d1, by rw [e], SqK.both sq, ?_, q _ S2 l2 H2 (a1.trans a2) (b1.trans b2) c2 ?_⟩
    · unfold joinOk at hz
      split at hz
      · rename_i h
        rw [List.map_map, List.length_map, sX_len]
        have e2 : ys.map ((fun x : Str => x.length) ∘ sX) = ys.map (·.length) := List.map_congr_left fun _ _ => sX_len
        rw [e2]
        exact h
      · cases hz
    · show V.str _ = V.str _
      rw [join_sX]⟩
/-! ### one sign sought -/
theorem atX_iff {i : Nat} : PySem.StrLaws.At (sX a) (sX [c]) (sX a).length i ↔ a[i]? = some c := by
  unfold PySem.StrLaws.At Builtin.Str.subAt
  rw [sX_len, sX_len]
  constructor
  · rintro ⟨h1, h2⟩
    have h1 : i + 1 ≤ a.length := h1
    have h2 := congrArg Array.toList (beq_iff_eq.mp h2)
    rw [Array.toList_extract] at h2
    have h3 : (a.drop i).take 1 = [c] := by simpa [sX, List.extract_eq_take_drop] using h2
    have h4 : ((a.drop i).take 1)[0]? = some c := by rw [h3]; rfl
    rw [List.getElem?_take_of_lt (by decide), List.getElem?_drop] at h4
    simpa using h4
  · intro h
    have hl := (List.getElem?_eq_some_iff.mp h).1
    refine ⟨hl, beq_iff_eq.mpr ?_⟩
    apply Array.ext'
    rw [Array.toList_extract]
    have : (a.drop i).take 1 = [c] := by
      rw [List.drop_eq_getElem_cons hl, (List.getElem?_eq_some_iff.mp h).2]
      rfl
    simpa [sX, List.extract_eq_take_drop] using this
theorem find_sX : Txt.find (sX a) (sX [c]) = findX a c := by
  unfold Txt.find findX
  rcases PySem.StrLaws.occ_head (sX a) (sX [c]) 1 (Nat.le_refl _) with ⟨h1, h2⟩ | ⟨i, r, h1, h2, h3⟩
  · rw [h1]
    have : a.findIdx? (· == c) = none := by
      rw [List.findIdx?_eq_none_iff]
      intro x hx
      obtain ⟨j, hj, e⟩ := List.mem_iff_getElem.mp hx
      by_cases hc : x = c
      · exact absurd (atX_iff.mpr (by rw [List.getElem?_eq_getElem hj, e, hc])) (h2 j)
      · simpa using hc
    rw [this]
  · rw [h1]
    have h2 := atX_iff.mp h2
    have : a.findIdx? (· == c) = some i := by
      rw [List.findIdx?_eq_some_iff_getElem]
      obtain ⟨hl, e⟩ := List.getElem?_eq_some_iff.mp h2
      refine ⟨hl, by simpa using e, fun j hj => ?_⟩
      have := h3 j hj
      intro hc
      refine this (atX_iff.mpr ?_)
      rw [List.getElem?_eq_getElem (by omega)]
      simpa using hc
    rw [this]
theorem ends_sX : Txt.endswith (sX a) (sX [c]) = endsX a c := by
  unfold Txt.endswith endsX
  have := atX_iff (a := a) (c := c) (i := a.length - 1)
  unfold PySem.StrLaws.At at this
  rw [sX_len, sX_len] at this ⊢
  rw [List.getLast?_eq_getElem?]
  rw [Bool.eq_iff_iff, Bool.and_eq_true_iff, decide_eq_true_iff, beq_iff_eq, ← this]
  constructor
  · rintro ⟨h1, h2⟩
    have h1 : 0 + 1 ≤ a.length := h1
    refine ⟨?_, h2⟩
    show a.length - 1 + 1 ≤ a.length
    omega
  · rintro ⟨h1, h2⟩
    have h1 : a.length - 1 + 1 ≤ a.length := h1
    refine ⟨?_, h2⟩
    show 0 + 1 ≤ a.length
    omega
theorem count_drop : ∀ (l : List Nat) (p f : Nat), PySem.StrLaws.ChainG (sX a) (sX [c]) (sX a).length p l f → (∀ k, f ≤ k → ¬ PySem.StrLaws.At (sX a) (sX [c]) (sX a).length k) → (a.drop p).count c = l.length
  | [], p, f, h, hn => by
    have h : f = p := h
    subst h
    show (a.drop f).count c = 0
    rw [List.count_eq_zero]
    intro hm
    obtain ⟨j, hj, e⟩ := List.mem_iff_getElem.mp hm
    rw [List.getElem_drop] at e
    refine hn (f + j) (by omega) (atX_iff.mpr ?_)
    rw [List.getElem?_eq_getElem (by rw [List.length_drop] at hj; omega), e]
  | i :: l, p, f, h, hn => by
    obtain ⟨h1, h2, h3, h4⟩ := h
    have ih := count_drop l (i + 1) f h4 hn
    have h2 := atX_iff.mp h2
    obtain ⟨hl, e⟩ := List.getElem?_eq_some_iff.mp h2
    have e1 : a.drop p = (a.drop p).take (i - p) ++ c :: a.drop (i + 1) := by
      have := List.take_append_drop (i - p) (a.drop p)
      rw [List.drop_drop] at this
      have e2 : p + (i - p) = i := by omega
      rw [e2, List.drop_eq_getElem_cons hl, e] at this
      exact this.symm
    have z : ((a.drop p).take (i - p)).count c = 0 := by
      rw [List.count_eq_zero]
      intro hm
      obtain ⟨j, hj, e⟩ := List.mem_iff_getElem.mp hm
      rw [List.length_take, List.length_drop] at hj
      rw [List.getElem_take, List.getElem_drop] at e
      refine h3 (p + j) (by omega) (by omega) (atX_iff.mpr ?_)
      rw [List.getElem?_eq_getElem (by omega), e]
    rw [e1, List.count_append, z, List.count_cons_self, ih, List.length_cons]
    omega
theorem count_sX : Txt.count (sX a) (sX [c]) = ((a.count c : Nat) : Int) := by
  unfold Txt.count
  obtain ⟨f, h1, h2⟩ := PySem.StrLaws.occ_tight (sX a) (sX [c]) (by rw [sX_len]; exact Nat.le_refl 1)
  have := count_drop _ 0 f h1 h2
  rw [List.drop_zero] at this
  rw [this]
theorem ev_m1X {rr : V → List V → Hp → VK → Prop} {s1 : SV} (ho : EvV K to G Mu Mu1 (vX a)) (he : EvV K te G Mu1 Mu2 (vX b)) (hr : ∀ B S ls H Q, HS K B S ls Mu2 H → (∀ v, s1.p K S ls v → Q v H) → rr (.str (sX a)) [.str (sX b)] H Q) : EvV K (tM1 rr to te) G Mu Mu2 s1 := fun B σ S ls H Q sl hs q =>
  ho B σ S ls H _ sl hs fun x S1 l1 H1 a1 b1 c1 d1 => ⟨⟨sX a, d1⟩, he B σ S1 l1 H1 _ (sl.mono a1 b1) c1 fun y S2 l2 H2 a2 b2 c2 d2 => by
    have d1 : x = _ := d1
    have d2 : y = _ := d2
    subst d1 d2
    exact hr B S2 l2 H2 _ c2 fun v hv => q v S2 l2 H2 (a1.trans a2) (b1.trans b2) c2 hv⟩
theorem ev_findX (ho : EvV K to G Mu Mu1 (vX a)) (he : EvV K te G Mu1 Mu2 (vX [c])) : EvV K (tM1 (fun x xs H Q => ∃ a b, x = .str a ∧ xs = [.str b] ∧ Q (.int (Txt.find a b)) H) to te) G Mu Mu2 (vI (findX a c)) :=
  ev_m1X ho he fun B S ls H Q hs q => ⟨_, _, rfl, rfl, q _ (by show V.int _ = V.int _; rw [find_sX])⟩
theorem ev_countX (ho : EvV K to G Mu Mu1 (vX a)) (he : EvV K te G Mu1 Mu2 (vX [c])) : EvV K (tM1 (fun x xs H Q => ∃ a b, x = .str a ∧ xs = [.str b] ∧ Q (.int (Txt.count a b)) H) to te) G Mu Mu2 (vI ((a.count c : Nat) : Int)) :=
  ev_m1X ho he fun B S ls H Q hs q => ⟨_, _, rfl, rfl, q _ (by show V.int _ = V.int _; rw [count_sX])⟩
theorem ev_endsX (ho : EvV K to G Mu Mu1 (vX a)) (he : EvV K te G Mu1 Mu2 (vX [c])) : EvV K (tM1 (fun x xs H Q => ∃ a b, x = .str a ∧ xs = [.str b] ∧ Q (.bl (Txt.endswith a b)) H) to te) G Mu Mu2 (vB (endsX a c)) :=
  ev_m1X ho he fun B S ls H Q hs q => ⟨_, _, rfl, rfl, q _ (by show V.bl _ = V.bl _; rw [ends_sX])⟩
theorem rv_inX1 : Rv K (fun x y H Q => ∃ (c : Nat) (z : Str), x = .str ⟨#[c]⟩ ∧ y = .str z ∧ Q (.bl (decide (c ∈ z.cps.toList))) H) Mu Mu (vX [c]) (vX a) (vB (a.contains c)) := rv_same fun B S ls H x y Q hs ha hb q => by
  refine ⟨c, sX a, ha, hb, q _ ?_⟩
  show V.bl _ = V.bl _
  rw [sX_cps]
  congr 1
  simp [List.contains_iff_mem]
theorem rv_ninX1 : Rv K (fun x y H Q => ∃ (c : Nat) (z : Str), x = .str ⟨#[c]⟩ ∧ y = .str z ∧ Q (.bl (!decide (c ∈ z.cps.toList))) H) Mu Mu (vX [c]) (vX a) (vB (!a.contains c)) := rv_same fun B S ls H x y Q hs ha hb q => by
  refine ⟨c, sX a, ha, hb, q _ ?_⟩
  show V.bl _ = V.bl _
  rw [sX_cps]
  congr 2
  simp [List.contains_iff_mem]
/-! ### f-strings -/
def EvJ (K : PySem.W.Frag) (ts : List TE) (G : Gm) (Mu Mu' : Mm) (l : List Nat) : Prop :=
  ∀ B σ S ls H (Q : Str → Hp → Prop) acc, Sl K S ls σ G → HS K B S ls Mu H → (acc ++ l).length ≤ sizeLine → (∀ S' ls' H', Same S S' → Pre ls ls' → HS K B S' ls' Mu' H' → Q (sX (acc ++ l)) H') → tJs ts (sX acc) σ H Q
theorem ej_nil : EvJ K [] G Mu Mu [] := fun B σ S ls H Q acc sl hs hz q => by
  have := q S ls H (Same.refl _) (Pre.refl _) hs
  rw [List.append_nil] at this
  exact this
theorem ej_cons {ts : List TE} (h : EvV K te G Mu Mu1 (vX a)) (r : EvJ K ts G Mu1 Mu2 b) : EvJ K (te :: ts) G Mu Mu2 (a ++ b) := fun B σ S ls H Q acc sl hs hz q =>
  h B σ S ls H _ sl hs fun x S1 l1 H1 a1 b1 c1 d1 => by
    refine ⟨sX a, d1, ?_, ?_⟩
    · rw [sX_app, sX_len]
      rw [List.length_append, List.length_append] at hz
      rw [List.length_append]
      omega
    · rw [sX_app]
      refine r B σ S1 l1 H1 Q (acc ++ a) (sl.mono a1 b1) c1 (by rw [List.append_assoc]; exact hz) fun S2 l2 H2 a2 b2 c2 => ?_
      rw [List.append_assoc]
      exact q S2 l2 H2 (a1.trans a2) (b1.trans b2) c2
theorem ev_js {ts : List TE} {r : Unit} (h : EvJ K ts G Mu Mu1 a) (hz : sizeP a = .ok r) : EvV K (fun σ H Q => tJs ts Str.empty σ H fun out H1 => Q (.str out) H1) G Mu Mu1 (vX a) := fun B σ S ls H Q sl hs q =>
  h B σ S ls H _ [] sl hs (by rw [List.nil_append]; exact sizeP_of hz) fun S1 l1 H1 a1 b1 c1 => q _ S1 l1 H1 a1 b1 c1 (by rw [List.nil_append]; exact rfl)
theorem ev_fmtX {r : Unit} (h : EvV K te G Mu Mu1 (vX a)) (hz : sizeP a = .ok r) : EvV K (tFmt te) G Mu Mu1 (vX a) := fun B σ S ls H Q sl hs q =>
  h B σ S ls H _ sl hs fun x S1 l1 H1 a1 b1 c1 d1 => .inl ⟨sX a, d1, by rw [sX_len]; exact sizeP_of hz, q _ S1 l1 H1 a1 b1 c1 rfl⟩
end
end TL

/-! TLv: caught exceptions (isinstance, fields), own classes in isinstance, own ==, != and str(). -/
namespace TL
open PySem PySem.Spec PySem.Calls PyProof.Rows
section
variable {prog : Program} {w : World} {A : Around} {E : Value → Shared → Prop} {s : Shared} {K : PySem.W.Frag} {x D : Addr} {ox : Obj} {od : Option Obj}
theorem found_data {C : Addr} {nm : Str} {a g : Value} (c1 : (PySem.W.clsIn K C).isSome = true) (c2 : PySem.W.findIn K (.ref C) nm = some (some a)) (c3 : PySem.W.specialIn K a "__get__" = some (some g)) (c4 : PySem.W.takesIn K a = some true) : PySem.W.findObj K C od nm = some (.bind g a) := by
  obtain ⟨cd, e⟩ := Option.isSome_iff_exists.mp c1
  unfold PySem.W.findObj
  rw [e, Option.bind_some, c2, Option.bind_some]
  simp [c3, c4]
/-- what an exception class must say, so that isinstance asks its instances -/
structure XsC (K : PySem.W.Frag) (D : Addr) : Prop where
  g1 : PySem.W.findIn K (.ref D) "__getattribute__" = some (some (.builtin "BaseException.__getattribute__"))
  g2 : PySem.W.findIn K (.ref D) "__getattr__" = some none
  g3 : PySem.W.subIn K (.ref D) (.type "BaseException") = some true
  g4 : PySem.W.hasDictIn K D = true
  g5 : PySem.W.findIn K (.ref D) "__class__" = some (some (.builtin "object.__class__"))
  g6 : PySem.W.specialIn K (.builtin "object.__class__") "__get__" = some (some (.builtin "getset_descriptor.__get__"))
  g7 : PySem.W.takesIn K (.builtin "object.__class__") = some true
  g8 : PySem.W.mroIn K D (.type "object") = some true
def xsB (K : PySem.W.Frag) (D : Addr) : Bool := decide (PySem.W.findIn K (.ref D) "__getattribute__" = some (some (.builtin "BaseException.__getattribute__"))) && (decide (PySem.W.findIn K (.ref D) "__getattr__" = some none) && (decide (PySem.W.subIn K (.ref D) (.type "BaseException") = some true) && (PySem.W.hasDictIn K D &&
  (decide (PySem.W.findIn K (.ref D) "__class__" = some (some (.builtin "object.__class__"))) && (decide (PySem.W.specialIn K (.builtin "object.__class__") "__get__" = some (some (.builtin "getset_descriptor.__get__"))) && (decide (PySem.W.takesIn K (.builtin "object.__class__") = some true) && decide (PySem.W.mroIn K D (.type "object") = some true)))))))
theorem xsB_ok (h : xsB K D = true) : XsC K D := by
  obtain ⟨h1, h⟩ := Bool.and_eq_true_iff.mp h
  obtain ⟨h2, h⟩ := Bool.and_eq_true_iff.mp h
  obtain ⟨h3, h⟩ := Bool.and_eq_true_iff.mp h
  obtain ⟨h4, h⟩ := Bool.and_eq_true_iff.mp h
  obtain ⟨h5, h⟩ := Bool.and_eq_true_iff.mp h
  obtain ⟨h6, h⟩ := Bool.and_eq_true_iff.mp h
  obtain ⟨h7, h8⟩ := Bool.and_eq_true_iff.mp h
  exact ⟨of_decide_eq_true h1, of_decide_eq_true h2, of_decide_eq_true h3, h4, of_decide_eq_true h5, of_decide_eq_true h6, of_decide_eq_true h7, of_decide_eq_true h8⟩
theorem XsC.xf (c : XsC K D) : L2.XfC K D := ⟨c.g1, c.g2, c.g3, c.g4⟩
theorem xs_class {Q : Option Value → Shared → Prop} (c : XsC K D) (X : K.In s.heap) (I : PySem.W.InstAt s.heap x ox D od) (q : Q (some (.ref D)) { s with toks := s.toks + 1 }) : wpAny (model prog w) A (getAttr? (.ref x) "__class__") Q E s := by
  have fo : PySem.W.findObj K D od "__class__" = some (.bind (.builtin "getset_descriptor.__get__") (.builtin "object.__class__")) := found_data (by
    obtain ⟨cd, e, _⟩ := PySem.W.any_some c.g4
    rw [e]
    rfl) c.g5 c.g6 c.g7
  obtain ⟨m0, m1, m2, m3, m4⟩ := s
  have T0 := I.type (M := model prog w)
  have T1 := PySem.W.looks_findIn (M := model prog w) X c.g1
  have T2 := PySem.W.looks_findIn (M := model prog w) X c.g2
  have T3 := PySem.W.looks_find (M := model prog w) X I fo
  have T4 : PySem.W.Looks (model prog w) m0 (isInstance (.ref x) (.type "BaseException")) true := T0.andThen (PySem.W.looks_subIn X c.g3)
  have z0 : (false && onTheHeap (Value.builtin "BaseException.__getattribute__")) = false := rfl
  have z2 : (Value.builtin "BaseException.__getattribute__" == Value.builtin "object.__getattribute__") = false := by decide +kernel
  have z1 : (onTheHeap (Value.ref D) && Value.builtin "BaseException.__getattribute__" == Value.builtin "object.__getattribute__") = false := by
    rw [z2]
    rfl
  unfold getAttr? getAttrBy? getAttrBy
  refine wpAny_bind (wpAny_mkText (wpAny_bind (wpAny_attempt (wpAny_holding (wpAny_bind (T0.at (wpAny_bind (T1.at ?_))))))))
  show wpAny _ _ (if (onTheHeap (Value.ref D) && Value.builtin "BaseException.__getattribute__" == Value.builtin "object.__getattribute__") = true then _ else _) _ _ ⟨m0, m1, m2, _, m4⟩
  rw [z1, if_neg Bool.false_ne_true]
  unfold getAttrByItsOwn hookBefore
  refine wpAny_bind ?_
  rw [if_pos (show onTheHeap (Value.ref D) = true from rfl)]
  refine T2.at ?_
  refine wpAny_bind (wpAny_attempt (wpAny_holding ?_))
  unfold callGetattribute
  rw [z0, if_neg Bool.false_ne_true]
  unfold boundAndCalled
  rw [PySem.F.excAttr_ValueError.ga.bind (.ref x)]
  refine wpAny_bind (wpAny_pure ?_)
  show wpAny _ _ (call (.builtin "BaseException.__getattribute__") [.ref x, .str "__class__" m3]) _ _ _
  refine wpAny_call (codeAny_call_builtin PySem.F.excAttr_ValueError.ga.plain PySem.F.entry_bexc_ga ?_)
  refine @PySem.W.check_slot (model prog w) _ _ ⟨m0, m1, m2, m3 + 1, m4⟩ "BaseException.__getattribute__" "BaseException" "__getattribute__" (.ref x) [.str "__class__" m3] [] _ (by decide +kernel) (by decide +kernel) T4 (PySem.F.args_bexc_ga (.ref x) (.str "__class__" m3)) ?_
  unfold Builtin.«object.__getattribute__»
  refine wpAny_bind (wpAny_of_eq (a := ((Value.ref x : Value), [Value.str "__class__" m3])) (by first | rfl | (simp only [slotArgs]; rfl)) ?_)
  refine wpAny_bind (wpAny_pure (wpAny_bind (T0.at (wpAny_bind (T3.at ?_)))))
  show wpAny _ _ (holding [Value.builtin "object.__class__"] (call (.builtin "getset_descriptor.__get__") [.builtin "object.__class__", .ref x, .ref D]) >>= ret) _ _ ⟨m0, m1, m2, _, m4⟩
  refine wpAny_bind (wpAny_holding (wpAny_call (PySem.W.class_get (s := ⟨m0, m1, m2, m3 + 1, m4⟩) (ox := ox) (od := od) X I c.g8 ?_)))
  refine wpAny_pure ?_
  show wpAny _ _ (handedOut (.ref D)) _ _ ⟨m0, m1, m2, _, m4⟩
  rw [PySem.W.handedOut_of (v := .ref D) rfl]
  first
    | exact wpAny_pure (wpAny_pure q)
    | exact wpAny_pure q
    | exact wpAny_pure (wpAny_bind (wpAny_pure (wpAny_pure q)))
theorem xs_kit (c : XsC K D) : PySem.W.KitX K (.ref x) (.ref D) (fun h => PySem.W.InstAt h x ox D od) where
  ty := fun _ _ _ I => I.type
  it := fun _ _ X _ => by
    obtain ⟨cd, e, _⟩ := PySem.W.any_some c.g4
    unfold PySem.W.clsIn at e
    split at e
    · rename_i b1 b2 b3 b4 e0
      intro A' Q' E' s' k q
      unfold isType loadHead
      exact wpAny_bind (wpAny_loadPart (k _ _ (X _ _ e0)) (wpAny_pure q))
    · cases e
  ne := fun h tp dd its n sl X ht => by
    obtain ⟨cd, e, _⟩ := PySem.W.any_some c.g4
    refine Bool.eq_false_iff.mpr fun q => ?_
    have eq0 : D = tp := Value.ref.inj (beq_iff_eq.mp q)
    subst eq0
    unfold PySem.W.clsIn at e
    split at e
    · rename_i b1 b2 b3 b4 e0
      have z := (X _ _ e0).symm.trans ht
      cases z
    · cases e
  ca := fun X I k => xs_class c X I k
end
open L2
/-- isinstance(e, c), e the exception that the suite holds -/
def rIsX (K : PySem.W.Frag) (a : Addr) (cls : Value) : List V → Hp → VK → Prop := fun xs H Q => ∃ (c : V) (D : Addr) (u : Value) (b : Bool), xs = [.ref a, c] ∧ cls = .ref D ∧ XsC K D ∧ ClsV c u ∧ PySem.W.kitOne K (.ref D) u = some b ∧ Q (.bl b) H
theorem inst_of {X : Cx} {a D : Addr} {oe : Obj} {d : Option Addr} {pn pins : List (Addr × Obj)} {σ : L2.St} {H : Hp} {s : Shared} (hz : Zc (.ref D) d oe) (hf : ∃ vs, oe.data = .fields vs) (hd : ∃ dd fs, d = some dd ∧ H dd = some (.xd fs)) (I : Inv (X.suite a ((a, oe) :: pn)) pins σ H s) : ∃ od, PySem.W.InstAt s.heap a oe D od := by
  obtain ⟨ha, _⟩ := I.pin (a, oe) (List.mem_append_left _ List.mem_cons_self)
  obtain ⟨vs, hv⟩ := hf
  obtain ⟨dd, fs, ed, ea⟩ := hd
  subst ed
  have hx : ObjOk X.prog X.w H s.heap dd (.xd fs) := I.hok dd _ ea
  obtain ⟨mA, hns, hr⟩ := hx
  obtain ⟨od, ho, hl⟩ := lookIn_ns hns
  refine ⟨some od, ha, hz.1, ?_, ?_⟩
  · unfold PySem.W.notCls
    rw [hv] <;> rfl
  · rw [hz.2]
    exact ho
def rIsXd (K : PySem.W.Frag) (a : Addr) (cls : Value) (d : Option Addr) : List V → Hp → VK → Prop := fun xs H Q => (∃ dd fs, d = some dd ∧ H dd = some (.xd fs)) ∧ rIsX K a cls xs H Q
theorem call_isX {X : Cx} {a : Addr} {oe : Obj} {cls : Value} {d : Option Addr} {pn : List (Addr × Obj)} (hz : Zc cls d oe) (hf : ∃ vs, oe.data = .fields vs) : CallR (X.suite a ((a, oe) :: pn)) (.builtin "isinstance") (rIsXd X.K a cls d) := by
  intro pins s σ H xs us Q I r h
  obtain ⟨hd, c, D, u, b, e1, e2, xc, k, e, q⟩ := h
  subst e1 e2
  obtain ⟨u1, u2, eu, r1, r2⟩ := vals2 r
  subst eu
  obtain rfl : u1 = Value.ref a := r1
  have e3 := k.eq r2
  subst e3
  obtain ⟨od, J⟩ := inst_of hz hf hd I
  exact PySem.W.kia_one (xs_kit xc) I.kIn J e (fun z => nomatch z) fun tk => ⟨.bl b, H, I.tok tk, rfl, q⟩
/-! ### own comparisons, str() -/
/-- a two-place operation that is an own method: its first operand an instance of the class at C -/
def rOwn2 (K : PySem.W.Frag) (C : Addr) (sp : Sp) : R2 := fun x y H Q => (∃ a dx fs, x = .ref a ∧ H a = some (.ins C dx fs)) ∧ (∃ t, TyX K H y t ∧ PySem.W.notFirst K C t = true) ∧ sp [x, y] H (fun v H' => (∃ b, v = .bl b) ∧ Q v H') (fun _ _ _ => False)
section
variable {X : Cx} {CT : CXT} {k : Nat} {f C : Addr} {fd : FuncData} {ps : List Str} {sp : Sp}
theorem op_cmpO {op : CmpOp} {m : Str} (em : (cmpInfo op).2.1 = m) (ec : ∀ v u, compareOp op v u = richCompare op v u) (hm : Meth X.K C m f) (F : FnOk X.prog X.w X.K X.mg X.base CT k f fd ps sp) (hr : Room k X.A) (hb : Binds X.K fd ps []) (hx : Passes CT X (fun _ _ _ => False)) : OpR X (compareOp op) (rOwn2 X.K C sp) := by
  intro pins s σ H x y v u Q I rx ry h
  obtain ⟨⟨a, dx, fs, e1, ea⟩, ⟨t, ty, nf⟩, q⟩ := h
  subst e1
  obtain rfl : v = Value.ref a := rx
  rw [ec]
  obtain ⟨mA, J, _⟩ := ins_get I.hok ea
  obtain ⟨od, J, _⟩ := J.look
  obtain ⟨m', hF⟩ := I.fr
  obtain ⟨P, Z, p, _⟩ := kit_of I ry ty
  refine PySem.W.cmp_K (op := op) (tb := t) hr.units0 hF I.ok.mod.kin J (Z.ty _ _ I.kIn p) nf (by rw [em]; exact hm.at_) hm.fn ?_
  have main := run_fn (dvs := []) (ds := []) F hr hb .nil hx I (show Vals [V.ref a, y] [Value.ref a, u] from .cons rfl (.cons ry .nil)) (by rw [List.append_nil]; exact q)
  refine wpAny_mono main (fun r s' z => ?_) fun _ _ z => z
  obtain ⟨w', H', I', rw', ⟨b, eb⟩, q'⟩ := z
  subst eb
  obtain rfl : r = Value.bool b := rw'
  exact ⟨V.bl b, H', I', rfl, q'⟩
def rStrO (C : Addr) (sp : Sp) : List V → Hp → VK → Prop := fun xs H Q => ∃ x, xs = [x] ∧ (∃ a dx fs, x = .ref a ∧ H a = some (.ins C dx fs)) ∧ sp [x] H (fun v H' => (∃ z, v = .str z) ∧ Q v H') (fun _ _ _ => False)
end
end TL

/-! TLw: own classes and caught exceptions, at the level of kinds. -/
namespace TL
open PySem PySem.Spec PyProof.Rows L2
/-! ### str(x), x an instance with an own __str__ -/
section
variable {X : Cx} {CT : CXT} {k : Nat} {f C : Addr} {fd : FuncData} {ps : List Str} {sp : Sp}
theorem call_strO (hm : Meth X.K C "__str__" f) (F : FnOk X.prog X.w X.K X.mg X.base CT k f fd ps sp) (hr : Room (k + 2) X.A) (hb : Binds X.K fd ps []) (hx : Passes CT X (fun _ _ _ => False)) : CallR X (.type "str") (rStrO C sp) := by
  intro pins s σ H xs us Q I r h
  obtain ⟨x, e1, ⟨a, dx, fs, e2, ea⟩, q⟩ := h
  subst e1 e2
  obtain ⟨u, eu, rx⟩ := vals1 r
  subst eu
  obtain rfl : u = Value.ref a := rx
  obtain ⟨mA, J, _⟩ := ins_get I.hok ea
  obtain ⟨od, J, _⟩ := J.look
  have hr2 : Room k X.A.in1.in1 := hr.in1.in1
  refine PySem.W.kso_call hr2.units0 I.kIn J hm.at_ hm.fn ?_
  have e0 : Env0 X.prog X.w X.K X.mg X.base X.A.in1.in1 X.stack s H := by
    have e := I.env0
    exact ⟨e.frames, e.mod, e.bs, e.bsz, e.funs, e.frf, e.hok, e.bare⟩
  have hl := F.len _ _ _ _ q
  have r2 : Vals [V.ref a] [Value.ref a] := .cons rfl .nil
  have bnd := hb s [.ref a] I.kIn (by simpa using hl)
  rw [List.append_nil] at bnd
  refine wpAny_call (codeAny_mono (F.run X.A.in1.in1 X.stack s H ⟨[.ref a], []⟩ [.ref a] [.ref a] _ (fun _ _ _ => False) hr2 e0 bnd r2 q) fun r s' hq => ?_)
  cases r with
  | error e => exact hx pins σ H s e s' I hq
  | ok fl =>
    cases fl with
    | ret w' =>
      obtain ⟨z, H', I', rz, ⟨y, ey⟩, q'⟩ := I.after hq
      subst ey
      obtain ⟨t, et⟩ := (show ∃ t, w' = Value.str y t from rz)
      subst et
      exact ⟨V.str y, H', I', ⟨t, rfl⟩, q'⟩
    | next => exact False.elim hq
    | brk => exact False.elim hq
    | cont => exact False.elim hq
end
/-! ### kinds of values -/
def TyS (K : PySem.W.Frag) (Mu : Mm) (s : SV) (t : Value) : Prop := ∀ B S ls H v, HS K B S ls Mu H → s.p K S ls v → TyX K H v t
structure InsF (K : PySem.W.Frag) (cn : Str) : Prop where
  cl : Cls K (He.ga K cn)
  a : PySem.W.findIn K (.ref (He.ga K cn)) "__class__" = some (some (.builtin "object.__class__"))
  b : PySem.W.specialIn K (.builtin "object.__class__") "__get__" = some (some (.builtin "getset_descriptor.__get__"))
  c : PySem.W.takesIn K (.builtin "object.__class__") = some true
  d : PySem.W.mroIn K (He.ga K cn) (.type "object") = some true
def insB (K : PySem.W.Frag) (C : Addr) : Bool := decide (PySem.W.findIn K (.ref C) "__class__" = some (some (.builtin "object.__class__"))) && (decide (PySem.W.specialIn K (.builtin "object.__class__") "__get__" = some (some (.builtin "getset_descriptor.__get__"))) && (decide (PySem.W.takesIn K (.builtin "object.__class__") = some true) && decide (PySem.W.mroIn K C (.type "object") = some true)))
theorem insB_ok {K : PySem.W.Frag} {cn : Str} (cl : Cls K (He.ga K cn)) (h : insB K (He.ga K cn) = true) : InsF K cn := by
  obtain ⟨h1, h⟩ := Bool.and_eq_true_iff.mp h
  obtain ⟨h2, h⟩ := Bool.and_eq_true_iff.mp h
  obtain ⟨h3, h4⟩ := Bool.and_eq_true_iff.mp h
  exact ⟨cl, of_decide_eq_true h1, of_decide_eq_true h2, of_decide_eq_true h3, of_decide_eq_true h4⟩
/-- an own class as a value -/
def rCl (K : PySem.W.Frag) (cn : Str) : TV := ⟨fun _ _ v => v = .ref (He.ga K cn), fun _ q => q⟩
section
variable {ι ω : Type} {K : PySem.W.Frag} {W : Xw} {T : List XcD} {G : Gm} {Mu Mu1 Mu2 : Mm} {te : TE} {F : FS ι ω} {x : ι} {w : ω} {s sa sb : SV} {cn m : Str} {n : String} {ns : List Str} {ts : List TV} {α : Type} {R : Rep α} {y : α} {t : Value} {tt : TV}
theorem tys_val (h : TyR R n) : TyS K Mu (.val (tv R y)) (.type n) := fun B S ls H v hs p => h p hs.ex
theorem tys_ins (c : InsF K cn) : TyS K Mu (.val (oT cn ns ts)) (.ref (He.ga K cn)) := fun B S ls H v hs ⟨a, dx, vs, e1, e2, e3, e4, e5⟩ => by
  subst e1
  exact .base (.ins (hs.ex _ _ e2) c.cl c.a c.b c.c c.d)
theorem rc_isiC {b : Bool} {u : Value} (ht : TyS K Mu s t) (hc : ∀ S v, tt.p K S v → ClsV v u) (e : PySem.W.kitOne K t u = some b) : Rc K (rIsi K) Mu Mu [s, .val tt] (vB b) := rc_same fun B S ls H vs Q hs ha q => by
  cases ha with
  | cons h1 h2 =>
    cases h2 with
    | cons h2 h3 =>
      cases h3
      exact ⟨_, _, t, u, b, rfl, hc S _ h2, ht B S ls H _ hs h1, e, q _ rfl⟩
theorem cl_own : ∀ S v, (rCl K cn).p K S v → ClsV v (.ref (He.ga K cn)) := fun S v h => by
  have h : v = _ := h
  rw [h]
  exact .own _
theorem cl_ty {n : String} : ∀ S v, (rTy n).p K S v → ClsV v (.type n) := fun S v h => by
  have h : v = _ := h
  rw [h]
  exact .ty _
/-! ### own ==, != -/
theorem rv_cmpO {b : Bool} (hi0 : IsIns K Mu sa cn m) (ht : TyS K Mu sb t) (nf : PySem.W.notFirst K (He.ga K cn) t = true) (hm : F.m x = .ok w) (hi : F.ins x = [sa, sb].map (renC []) := by rfl) (hc : okC [] [sa, sb] = true := by rfl) (hC : F.cells x = [] := by rfl) (ho : F.out x w = .rt (tv rBool b) [] := by rfl) {sp : Sp} (hsp : SpLe (spT K T F) sp := by exact fun _ _ _ _ h => h) : Rv K (rOwn2 K (He.ga K cn) sp) Mu Mu sa sb (vB b) := fun B S ls H u v Q hs ha hb q => by
  obtain ⟨a, dx, fs, e1, e2, _⟩ := hi0 B S ls H u hs ha
  refine ⟨⟨a, dx, fs, e1, e2⟩, ⟨t, ht B S ls H v hs hb, nf⟩, ?_⟩
  refine hsp _ _ _ _ ?_
  refine sp_call (ks := []) (ps := []) hs (.cons ha (.cons hb .nil)) rfl hc hi (by rw [hC]; rfl) (by unfold okP; rfl) hm fun C back => ?_
  rw [ho]
  exact acc_rt hs rfl back fun v' S' l' H' a' b' c' d' => ⟨⟨b, d'⟩, q v' S' l' H' a' b' (by unfold pinL putAll at c'; exact c') d'⟩
theorem rc_strO {z : List Nat} (hi0 : IsIns K Mu sa cn m) (hm : F.m x = .ok w) (hi : F.ins x = [sa].map (renC []) := by rfl) (hc : okC [] [sa] = true := by rfl) (hC : F.cells x = [] := by rfl) (ho : F.out x w = .rt (tv rTxt z) [] := by rfl) {sp : Sp} (hsp : SpLe (spT K T F) sp := by exact fun _ _ _ _ h => h) : Rc K (rStrO (He.ga K cn) sp) Mu Mu [sa] (vX z) := fun B S ls H vs Q hs ha q => by
  cases ha with
  | @cons u _ vs _ h1 h2 =>
    cases h2
    obtain ⟨a, dx, fs, e1, e2, _⟩ := hi0 B S ls H u hs h1
    refine ⟨u, rfl, ⟨a, dx, fs, e1, e2⟩, ?_⟩
    refine hsp _ _ _ _ ?_
    refine sp_call (ks := []) (ps := []) hs (.cons h1 .nil) rfl hc hi (by rw [hC]; rfl) (by unfold okP; rfl) hm fun C back => ?_
    rw [ho]
    exact acc_rt hs rfl back fun v' S' l' H' a' b' c' d' => ⟨⟨_, d'⟩, q v' S' l' H' a' b' (by unfold pinL putAll at c'; exact c') d'⟩
/-! ### what is caught -/
theorem ev_isX {a : Addr} {xx : Xc} {cls : Value} {d : Option Addr} {cc : Nat → Bool} {u : Value} {te2 : TE} (h : EvV K te G Mu Mu1 (.val (tX T a xx cls d))) (h2 : EvV K te2 G Mu1 Mu1 (.val tt)) (hc : ∀ S v, tt.p K S v → ClsV v u)
    (hf : ∀ (n : Nat) (D : XcD), T[n]? = some D → XsC K (He.ga K D.cls) ∧ PySem.W.kitOne K (.ref (He.ga K D.cls)) u = some (cc n)) : EvV K (tCB (rIsXd K a cls d) (tCons te (tCons te2 tNil))) G Mu Mu1 (vB (cc xx.cls)) :=
  ev_cb (ea_cons h (ea_cons h2 ea_nil)) fun B S ls H vs Q hs ha q => by
    cases ha with
    | cons r1 r2 =>
      cases r2 with
      | cons r2 r3 =>
        cases r3
        obtain ⟨e1, D, a', f1, f2, f3, f4, f5⟩ := r1
        subst e1
        obtain ⟨g1, g2⟩ := hf _ D f1
        exact ⟨⟨a', _, f3, hs.ex _ _ f5⟩, _, He.ga K D.cls, u, cc xx.cls, rfl, f2, g1, hc S _ r2, g2, q _ S ls H (Same.refl _) (Pre.refl _) hs rfl⟩
theorem args1 {xs : List XA} {f : Str} {v : XA} (hl : ([f] : List Str).length = xs.length) (e : xs[0]? = some v) : (([f] : List Str).zip (xs.map xaV)).reverse.lookup f = some (xaV v) := by
  match xs, hl with
  | [x], _ =>
    cases e
    simp [List.lookup]
theorem args2a {xs : List XA} {f g : Str} {v : XA} (hl : ([f, g] : List Str).length = xs.length) (e : xs[0]? = some v) (ne : (f == g) = false) : (([f, g] : List Str).zip (xs.map xaV)).reverse.lookup f = some (xaV v) := by
  match xs, hl with
  | [x, y], _ =>
    cases e
    simp [List.lookup, ne]
theorem args2b {xs : List XA} {f g : Str} {v : XA} (hl : ([f, g] : List Str).length = xs.length) (e : xs[1]? = some v) : (([f, g] : List Str).zip (xs.map xaV)).reverse.lookup g = some (xaV v) := by
  match xs, hl with
  | [x, y], _ =>
    cases e
    simp [List.lookup]
theorem ev_xf {a : Addr} {xx : Xc} {cls : Value} {d : Option Addr} {k i : Nat} {D : XcD} {f : Str} {v : XA} (h : EvV K te G Mu Mu1 (.val (tX T a xx cls d))) (hk : xx.cls = k) (hD : T[k]? = some D) (hv : xx.args[i]? = some v)
    (hl : ∀ xs : List XA, D.fs.length = xs.length → xs[i]? = some v → (D.fs.zip (xs.map xaV)).reverse.lookup f = some (xaV v)) : EvV K (tXf a cls d (He.ga K D.cls) f te) G Mu Mu1 (.val (xaT v)) := fun B σ S ls H Q sl hs q =>
  h B σ S ls H _ sl hs fun y S1 l1 H1 a1 b1 c1 d1 => by
    obtain ⟨e1, D', a', f1, f2, f3, f4, f5⟩ := d1
    rw [hk, hD] at f1
    cases f1
    refine ⟨e1, f2, a', _, xaV v, f3, c1.ex _ _ f5, hl _ f4 hv, q _ S1 l1 H1 a1 b1 c1 ?_⟩
    cases v <;> rfl
theorem ev_xfI {a : Addr} {xx : Xc} {cls : Value} {d : Option Addr} {k i : Nat} {D : XcD} {f : Str} {v : Int} (h : EvV K te G Mu Mu1 (.val (tX T a xx cls d))) (hk : xx.cls = k) (hD : T[k]? = some D) (hv : xInt xx i = .ok v)
    (hl : ∀ (z : XA) (xs : List XA), D.fs.length = xs.length → xs[i]? = some z → (D.fs.zip (xs.map xaV)).reverse.lookup f = some (xaV z)) : EvV K (tXf a cls d (He.ga K D.cls) f te) G Mu Mu1 (vI v) := by
  unfold xInt at hv
  split at hv
  · rename_i z e
    cases hv
    exact ev_xf h hk hD e (hl _)
  · cases hv
theorem ev_xfX {a : Addr} {xx : Xc} {cls : Value} {d : Option Addr} {k i : Nat} {D : XcD} {f : Str} {v : List Nat} (h : EvV K te G Mu Mu1 (.val (tX T a xx cls d))) (hk : xx.cls = k) (hD : T[k]? = some D) (hv : xTxt xx i = .ok v)
    (hl : ∀ (z : XA) (xs : List XA), D.fs.length = xs.length → xs[i]? = some z → (D.fs.zip (xs.map xaV)).reverse.lookup f = some (xaV z)) : EvV K (tXf a cls d (He.ga K D.cls) f te) G Mu Mu1 (vX v) := by
  unfold xTxt at hv
  split at hv
  · rename_i z e
    cases hv
    exact ev_xf h hk hD e (hl _)
  · cases hv
end
/-! ### a call that may raise, in a block -/
section
variable {ω ω' ε : Type} {K : PySem.W.Frag} {W : Xw} {np : Nat} {u : TS} {G : Gm} {Mu Mu1 : Mm} {κ : ω → OS} {w : ω} {x : Xc}
theorem eb_rz {p : Mr (Rz ε ω')} {k : ω' → Mr ω} {h : Xc → ε → Mr ω} (h1 : ∀ r, p = .ok (.ret r) → EvB K W np u G Mu κ (k r)) (h2 : ∀ x c, p = .ok (.exc x c) → EvB K W np u G Mu κ (h x c)) : EvB K W np u G Mu κ (p >>= Rz.k k h) :=
  eb_bind fun r e => match r, e with
    | .ret r, e => h1 r e
    | .exc x c, e => h2 x c e
/-- an exception leaves an __init__: the half-made instance is forgotten -/
theorem eb_exI {t : TS} {m0 : Option MV} {Mp Mj : Mm} (h : EvXS K W t G Mu Mu1 x) (hκ : κ w = .ex x none (none :: Mp)) (hM : Mu1 = m0 :: (Mp ++ Mj)) : EvB K W np t G Mu κ (.ok w) := fun B σ S ls H D w' hn sl hs e q => by
  cases e
  rw [hκ] at q
  refine h B σ S ls H D sl hs fun S' l' H' cls d a b c e => ?_
  subst hM
  refine q σ S' l' H' cls d Mj a (Cmp.pre b (Cmp.refl _)) (fun G' z => by cases z) (c.forget (Mu' := (none :: Mp) ++ Mj) (by simp) fun k m em => ?_) e
  cases k with
  | zero => cases em
  | succ k => exact em
end
end TL

/-! TLx: what the printed walks of defs that raise, of methods and classes lean on. -/
namespace TL
open PySem PySem.Spec PyProof.Rows L2
section
variable {ω ι : Type} {K : PySem.W.Frag} {W W' : Xw} {np : Nat} {t : TS} {G : Gm} {Mu : Mm} {κ : ω → OS} {T : List XcD} {F : FS ι ω}
theorem eb_stuck : EvB K W np t G Mu κ (.error .stuck) := fun _ _ _ _ _ _ _ _ _ _ e => by cases e
def noX : OS → Prop
  | .ex _ _ _ => False
  | _ => True
theorem acc_W {B : Bs} {S : Hp} {ls : List Addr} {D : Ends} : ∀ {o : OS}, noX o → Acc K W B S ls D o → Acc K W' B S ls D o
  | .nx _ _, _, q => q
  | .bk _ _, _, q => q
  | .ct _ _, _, q => q
  | .rt _ _, _, q => q
  | .rf _ _, _, q => q
  | .vd _, _, q => q
  | .rn _, _, q => q
  | .ex _ _ _, h, _ => h.elim
  | .never, _, _ => trivial
/-- a def that raises nothing, its body under no wish -/
theorem sp_body0 {N : List Str} {vs : List V} {H : Hp} {Q : VK} {E : XK} (q : spT K T F vs H Q E) (hn : ∀ x w, noX (F.out x w))
    (h : ∀ x, EvB K ⟨T, fun _ _ _ _ => False⟩ (F.cells x).length t (startG N.length (F.ins x)) (F.cells x) (F.out x) (F.m x)) : t { nx := fun _ H' => Q .non H', rt := Q } (L2.start N vs) H := by
  obtain ⟨x, w, S, ls, C, e, hs, r, acc⟩ := q
  exact h x ⟨H, S, ls, C⟩ (L2.start N vs) S ls H _ w hs.len (sl_start r) hs e (acc_W (hn x w) acc)
end
theorem takes0 {X : Cx} : L2N.Takes X (fun _ _ _ _ => False) := fun _ _ ⟨_, _, _, _, _, _, _, _, _, _, _, _, _, _, _, _, w⟩ => w.elim
theorem pass0A {X : Cx} {σ : L2.St} {E : XK} : PassesAt CX0 X σ E := fun _ _ _ _ _ _ h => h.elim
theorem fnOr {P : Program} {w : World} {K : PySem.W.Frag} {mg : Str → Option Value} {base : Heap} {CT : CXT} {i j k : Nat} {f : Addr} {fd : FuncData} {ps : List Str} {a b : Sp} (F : FnOk P w K mg base CT i f fd ps a) (G : FnOk P w K mg base CT j f fd ps b) (hi : i ≤ k) (hj : j ≤ k) : FnOk P w K mg base CT k f fd ps (spOr a b) where
  len := fun vs H Q E h => h.elim (F.len vs H Q E) (G.len vs H Q E)
  run := fun A outer s H args us vs Q E hr he hb hv hs => hs.elim (F.run A outer s H args us vs Q E (hr.mono hi) he hb hv) (G.run A outer s H args us vs Q E (hr.mono hj) he hb hv)
/-- a def that may raise; a method -/
def OkR (P : Program) (w : World) (K : PySem.W.Frag) (mg : Str → Option Value) (base : Heap) (x : Str) (ps : List Str) (k : Nat) (sp : Sp) : Prop :=
  ∃ fd, FnOk P w K mg base (L2N.CX P w) k (He.ga K x) fd ps sp ∧ Binds K fd ps [] ∧ PySem.W.keepIn K (.ref (He.ga K x)) = true ∧ mg x = some (.ref (He.ga K x))
def OkM (P : Program) (w : World) (K : PySem.W.Frag) (mg : Str → Option Value) (base : Heap) (CT : CXT) (c m : Str) (ps : List Str) (k : Nat) (sp : Sp) : Prop :=
  ∃ fd, FnOk P w K mg base CT k (He.ma K (He.ga K c) m) fd ps sp ∧ Binds K fd ps []
def OkS1 (P : Program) (w : World) (K : PySem.W.Frag) (mg : Str → Option Value) (base : Heap) (CT : CXT) (f : Addr) (ps : List Str) (k : Nat) (sp : Sp) : Prop :=
  ∃ fd, FnOk P w K mg base CT k f fd ps sp ∧ Binds K fd ps []
/-- an exception's base class, without an __init__ of its own -/
def baseB (K : PySem.W.Frag) (C : Addr) : Bool := PySem.W.readsIn K C (.type "type") && (decide (PySem.W.specialIn K (.ref C) "__getattribute__" = some (some (.builtin "type.__getattribute__"))) && (match PySem.W.findCls K (.ref C) (.type "type") "__init__" with
  | some (.val (.builtin n)) => decide (n = "ValueError.__init__")
  | _ => false))
structure BaseF (K : PySem.W.Frag) (C : Addr) : Prop where
  a : PySem.W.readsIn K C (.type "type") = true
  b : PySem.W.specialIn K (.ref C) "__getattribute__" = some (some (.builtin "type.__getattribute__"))
  c : PySem.W.findCls K (.ref C) (.type "type") "__init__" = some (.val (.builtin "ValueError.__init__"))
theorem baseB_ok {K : PySem.W.Frag} {C : Addr} (h : baseB K C = true) : BaseF K C := by
  obtain ⟨h1, h⟩ := Bool.and_eq_true_iff.mp h
  obtain ⟨h2, h3⟩ := Bool.and_eq_true_iff.mp h
  refine ⟨h1, of_decide_eq_true h2, ?_⟩
  split at h3
  · rename_i n e
    rw [e, of_decide_eq_true h3]
  · cases h3
/-- a staticmethod of the class at C -/
def baseS (K : PySem.W.Frag) (C : Addr) : Bool := PySem.W.readsIn K C (.type "type") && decide (PySem.W.specialIn K (.ref C) "__getattribute__" = some (some (.builtin "type.__getattribute__")))
theorem baseS_ok {K : PySem.W.Frag} {C : Addr} (h : baseS K C = true) : PySem.W.readsIn K C (.type "type") = true ∧ PySem.W.specialIn K (.ref C) "__getattribute__" = some (some (.builtin "type.__getattribute__")) := by
  obtain ⟨h1, h2⟩ := Bool.and_eq_true_iff.mp h
  exact ⟨h1, of_decide_eq_true h2⟩
def statB (K : PySem.W.Frag) (C : Addr) (m : Str) : Bool := match PySem.W.findCls K (.ref C) (.type "type") m with
  | some (.get (.builtin n) (.ref q) .none (.ref C')) => decide (n = "staticmethod.__get__") && (decide (C' = C) && (match PySem.W.recIn K q "staticmethod" with
    | some (.ref _ :: _) => true
    | _ => false))
  | _ => false
theorem statB_ok {K : PySem.W.Frag} {C : Addr} {m : Str} (h : statB K C m = true) : ∃ q rest, PySem.W.findCls K (.ref C) (.type "type") m = some (.get (.builtin "staticmethod.__get__") (.ref q) .none (.ref C)) ∧ PySem.W.recIn K q "staticmethod" = some (.ref (sAd K C m) :: rest) := by
  unfold statB at h
  split at h
  · rename_i n q C' e
    obtain ⟨h1, h⟩ := Bool.and_eq_true_iff.mp h
    obtain ⟨h2, h3⟩ := Bool.and_eq_true_iff.mp h
    have h1 := of_decide_eq_true h1
    have h2 := of_decide_eq_true h2
    subst h1 h2
    split at h3
    · rename_i f rest e2
      refine ⟨q, rest, e, ?_⟩
      unfold sAd
      rw [e]
      show _ = some (.ref (match PySem.W.recIn K q "staticmethod" with
        | some (.ref f :: _) => f
        | _ => 0) :: rest)
      rw [e2]
    · cases h3
  · cases h
theorem xs_raiseA {W : Xw} {K : PySem.W.Frag} {G : Gm} {Mu Mu1 : Mm} {ta : TA} {C : Addr} {sp : Sp} {u : TS} {y : Xc} (h : EvXA K W ta G Mu Mu1 y) : EvXS K W (tSeq (fun _ σ H => tMkO C sp [] ta σ H fun cls d H' => W.W cls d σ H') u) G Mu Mu1 y := fun B σ S ls H D sl hs q => h B σ S ls H _ sl hs q
theorem ex_fld {W : Xw} {K : PySem.W.Frag} {G : Gm} {Mu Mu1 : Mm} {te : TE} {f : Str} {y : Xc} (h : EvX K W te G Mu Mu1 y) : EvX K W (tFld K te f) G Mu Mu1 y := fun B σ S ls H Q sl hs q => h B σ S ls H _ sl hs q
theorem kJoin {X : Cx} {K : PySem.W.Frag} {o e : Expr} {to te : TE} {apos pos : Pos} (ho : PE X o to) (he : PE X e te) (h : X.K = K := by rfl) (hs : starEach [e] X.env = [(false, eval e X.env)] := by rfl) (hbase : attributeBase o "join" X.env (eval o X.env) = eval o X.env := by rfl) (hline : (apos.endLine == pos.line) = true := by rfl) :
    PE X (.Call (.Attribute o "join" apos) [e] [] pos) (tM1 (rJoin K) to te) := h ▸ pe_join ho he hs hbase hline
theorem ef_revL {K : PySem.W.Frag} {G : Gm} {Mu Mu1 : Mm} {te : TE} {s : SV} {k : Knd} {α : Type} {R : Rep α} {xs : List α} (h : EvV K te G Mu Mu1 s) (hq : IsSq K Mu1 s k (xs.map (tv R))) (hk : k.isL = true := by rfl) : EvF K (tRevL K te) G Mu Mu1 (mL (xs.reverse.map (tv R))) := fun B σ S ls H Q sl hs q =>
  h B σ S ls H _ sl hs fun x S1 l1 H1 a1 b1 c1 d1 => by
    obtain ⟨p, vs, e, sq, l, r⟩ := hq B S1 l1 H1 x c1 d1
    refine ⟨p, vs, e, SqK.seq sq hk, fun p2 hp2 => ?_⟩
    refine new_lst c1 hp2 (by rw [List.length_reverse]; exact l) ?_ (q.mono a1 b1)
    rw [List.map_reverse]
    exact Paired.rev r
theorem ev_sgetL {K : PySem.W.Frag} {G : Gm} {Mu Mu1 : Mm} {te : TE} {α β : Type} {A : Rep α} {B' : Rep β} {z : α ⊕ β} {x : α} (h : EvV K te G Mu Mu1 (.val (tv (rSum A B') z))) (e : getL z = .ok x) : EvV K te G Mu Mu1 (.val (tv A x)) := by
  cases z with
  | inl y =>
    cases e
    exact fun B σ S ls H Q sl hs q => h B σ S ls H Q sl hs fun v S' l' H' a b c d => q v S' l' H' a b c d
  | inr y => cases e
theorem ev_sgetR {K : PySem.W.Frag} {G : Gm} {Mu Mu1 : Mm} {te : TE} {α β : Type} {A : Rep α} {B' : Rep β} {z : α ⊕ β} {x : β} (h : EvV K te G Mu Mu1 (.val (tv (rSum A B') z))) (e : getR z = .ok x) : EvV K te G Mu Mu1 (.val (tv B' x)) := by
  cases z with
  | inr y =>
    cases e
    exact fun B σ S ls H Q sl hs q => h B σ S ls H Q sl hs fun v S' l' H' a b c d => q v S' l' H' a b c d
  | inl y => cases e
theorem gsO {G' G : Gm} (h : GSub G' G) : GSubO (some G') G := h
end TL

/-! TLy: operators of own classes, further methods of texts. -/
namespace TL
open PySem PySem.Spec PyProof.Rows L2
theorem cmpBack_of {P : Value → Shared → Prop} {r : Value} {s : Shared} (v : V) (h : RelV v r) (p : P r s) : PySem.W.CmpBack P r s := by
  unfold PySem.W.CmpBack
  split
  · cases v with
    | non => cases h
    | bl b => cases h
    | int i =>
      obtain ⟨_, e⟩ := h
      cases e
    | str i =>
      obtain ⟨_, e⟩ := h
      cases e
    | byt i =>
      obtain ⟨_, e⟩ := h
      cases e
    | flt i =>
      obtain ⟨_, e⟩ := h
      cases e
    | ref a => cases h
    | ty n => cases h
  · exact p
section
variable {X : Cx} {CT : CXT} {k : Nat} {f C : Addr} {fd : FuncData} {ps : List Str} {sp : Sp} {E : L2.St → XK} {m : Str} {pos : Pos} {e o : Expr} {ta tb : TE} {op : Operator} {t : Value}
/-- the second operand: an instance, or an int -/
def TyB (K : PySem.W.Frag) (H : Hp) (y : V) (t : Value) : Prop := (TyX K H y t ∧ ∃ D, t = .ref D) ∨ (t = .type "int" ∧ ∃ i, y = .int i)
def tBinS (K : PySem.W.Frag) (C : Addr) (sp : Sp) (E : L2.St → XK) (t : Value) (ta tb : TE) : TE := fun σ H Q => ta σ H fun x H1 => tb σ H1 fun y H2 => (∃ a dx fs, x = .ref a ∧ H2 a = some (.ins C dx fs)) ∧ TyB K H2 y t ∧ sp [x, y] H2 Q (E σ)
/-- what a class's own operator asks of the class -/
def binB (K : PySem.W.Frag) (C : Addr) (nm : String) (t : Value) : Bool := PySem.W.selfFirst K C && (decide (t = .ref C) || (match t with
  | .type n => (match PySem.W.findIn K (.ref C) (dunderR nm) with
    | some none => true
    | some (some (.ref _)) => true
    | _ => false) && ((PySem.W.findIn K (.type n) (dunder nm)).isSome && ((PySem.W.findIn K (.type n) (dunderR nm)).isSome && decide (PySem.W.subIn K (.type n) (.ref C) = some false)))
  | _ => false))
theorem pe_binS {K : PySem.W.Frag} (hB : binB X.K C op.info.2 t = true) (em : dunder op.info.2 = m) (he : PE X o ta) (he2 : PE X e tb) (hm : Meth X.K C m f) (F : FnOk X.prog X.w X.K X.mg X.base CT k f fd ps sp) (hr : Room k X.A) (hb : Binds X.K fd ps []) (hx : ∀ σ, PassesAt CT X σ (E σ)) (hK : X.K = K := by rfl) :
    PE X (.BinOp o op e pos) (tBinS K C sp E t ta tb) := ⟨fun pins s σ H Q I h => by
  subst hK
  refine wpAny_BinOp (binT he he2 I h fun v u s2 x y H2 I2 rx ry q => ?_)
  obtain ⟨⟨a, dx, fs, e1, ea⟩, ty, q⟩ := q
  subst e1
  obtain rfl : v = Value.ref a := rx
  obtain ⟨mA, J, _⟩ := ins_get I2.hok ea
  obtain ⟨od, J, _⟩ := J.look
  obtain ⟨m', hF⟩ := I2.fr
  obtain ⟨h1, h2⟩ := Bool.and_eq_true_iff.mp hB
  have main := run_fnS (us := [.ref a, u]) (vs := [V.ref a, y]) F hr hb (hx σ) I2 (.cons rfl (.cons ry .nil)) q
  have main2 := wpAny_mono main (fun r s' (z : EP X pins σ Q r s') => (by obtain ⟨w', H', I', rw', q'⟩ := z; exact cmpBack_of w' rw' ⟨w', H', I', rw', q'⟩ : PySem.W.CmpBack (EP X pins σ Q) r s')) fun _ _ z => z
  rcases ty with ⟨ty, D, ht⟩ | ⟨ht, i, ey⟩
  · subst ht
    obtain rfl : C = D := by
      rcases Bool.or_eq_true_iff.mp h2 with h2 | h2
      · exact (Value.ref.inj (of_decide_eq_true h2)).symm
      · cases h2
    obtain ⟨P, Z, p, _⟩ := kit_of I2 ry ty
    exact PySem.W.binop_K hF I2.ok.mod.kin J (Z.ty _ _ I2.kIn p) h1 (by rw [em]; exact hm.at_) hm.fn main2
  · subst ht ey
    obtain ⟨_, eu⟩ := ry
    subst eu
    rcases Bool.or_eq_true_iff.mp h2 with h2 | h2
    · exact absurd (of_decide_eq_true h2) (fun z => by cases z)
    · obtain ⟨h3, h2⟩ := Bool.and_eq_true_iff.mp h2
      obtain ⟨h4, h2⟩ := Bool.and_eq_true_iff.mp h2
      obtain ⟨h5, h6⟩ := Bool.and_eq_true_iff.mp h2
      obtain ⟨fo, ho⟩ := Option.isSome_iff_exists.mp h4
      obtain ⟨ro, hro⟩ := Option.isSome_iff_exists.mp h5
      obtain ⟨rc, hrc, hor⟩ : ∃ rc, PySem.W.findIn X.K (.ref C) (dunderR op.info.2) = some rc ∧ (rc = none ∨ ∃ g, rc = some (.ref g)) := by
        split at h3
        · rename_i e
          exact ⟨none, e, .inl rfl⟩
        · rename_i g e
          exact ⟨_, e, .inr ⟨g, rfl⟩⟩
        · cases h3
      exact PySem.W.ksp_binT hF I2.ok.mod.kin J rfl h1 (by rw [em]; exact hm.at_) hm.fn hrc hor ho hro (of_decide_eq_true h6) main2⟩
/-- ~a -/
theorem pe_invS (he : PE X o ta) (hm : Meth X.K C "__invert__" f) (F : FnOk X.prog X.w X.K X.mg X.base CT k f fd ps sp) (hr : Room k X.A) (hb : Binds X.K fd ps []) (hx : ∀ σ, PassesAt CT X σ (E σ)) :
    PE X (.UnaryOp .Invert o pos) (tMethS C "__invert__" sp E ta tNil) := ⟨fun pins s σ H Q I h => by
  refine UnaryOp_ (thn (he.run pins s σ H _ I h) fun u s1 hu => ?_)
  obtain ⟨y, H1, I1, ry, a, dx, fs, ey, ea, l, q⟩ := hu
  subst ey
  obtain rfl : u = Value.ref a := ry
  obtain ⟨mA, J, _⟩ := ins_get I1.hok ea
  obtain ⟨od, J, _⟩ := J.look
  obtain ⟨m', hF⟩ := I1.fr
  exact PySem.W.ksp_inv hF I1.ok.mod.kin J hm.at_ hm.fn (run_fnS (us := [.ref a]) (vs := [.ref a]) F hr hb (hx σ) I1 (.cons rfl .nil) q)⟩
/-- x in a, a an instance with an own __contains__ -/
def rIn2 (C : Addr) (ng : Bool) (sp : Sp) : R2 := fun y x H Q => (∃ a dx fs, x = .ref a ∧ H a = some (.ins C dx fs)) ∧ sp [x, y] H (fun v H' => ∃ b : Bool, v = .bl b ∧ Q (.bl (b ^^ ng)) H') (fun _ _ _ => False)
theorem op_inO (hm : Meth X.K C "__contains__" f) (F : FnOk X.prog X.w X.K X.mg X.base CT k f fd ps sp) (hr : Room k X.A) (hb : Binds X.K fd ps []) (hx : Passes CT X (fun _ _ _ => False)) : OpR X (compareOp .In) (rIn2 C false sp) := by
  intro pins s σ H x y v u Q I rx ry h
  obtain ⟨⟨a, dx, fs, e1, ea⟩, q⟩ := h
  subst e1
  obtain rfl : u = Value.ref a := ry
  obtain ⟨mA, J, _⟩ := ins_get I.hok ea
  obtain ⟨od, J, _⟩ := J.look
  obtain ⟨m', hF⟩ := I.fr
  have main := run_fn (dvs := []) (ds := []) F hr hb .nil hx I (show Vals [V.ref a, x] [Value.ref a, v] from .cons rfl (.cons rx .nil)) (by rw [List.append_nil]; exact q)
  refine PySem.W.in_K hF I.ok.mod.kin J hm.at_ hm.fn (wpAny_mono main (fun r s' z => ?_) fun _ _ z => z)
  obtain ⟨w', H', I', rw', b, eb, q'⟩ := z
  subst eb
  obtain rfl : r = Value.bool b := rw'
  refine wpAny_of_eq (a := b) rfl ⟨V.bl b, H', I', rfl, ?_⟩
  simpa using q'
/-- the truth of an instance with an own __bool__ -/
def rTruO (C : Addr) (sp : Sp) : V → Hp → (Bool → Hp → Prop) → Prop := fun x H Q => (∃ a dx fs, x = .ref a ∧ H a = some (.ins C dx fs)) ∧ sp [x] H (fun v H' => ∃ b : Bool, v = .bl b ∧ Q b H') (fun _ _ _ => False)
theorem tru_own (hm : Meth X.K C "__bool__" f) (F : FnOk X.prog X.w X.K X.mg X.base CT k f fd ps sp) (hr : Room k X.A) (hb : Binds X.K fd ps []) (hx : Passes CT X (fun _ _ _ => False)) : TruR X (rTruO C sp) := by
  intro pins s σ H x v Q I rx h
  obtain ⟨⟨a, dx, fs, e1, ea⟩, q⟩ := h
  subst e1
  obtain rfl : v = Value.ref a := rx
  obtain ⟨mA, J, _⟩ := ins_get I.hok ea
  obtain ⟨od, J, _⟩ := J.look
  obtain ⟨m', hF⟩ := I.fr
  have main := run_fn (dvs := []) (ds := []) F hr hb .nil hx I (show Vals [V.ref a] [Value.ref a] from .cons rfl .nil) (by rw [List.append_nil]; exact q)
  refine PySem.W.truthy_K hF I.ok.mod.kin J hm.at_ hm.fn (wpAny_mono main (fun r s' z => ?_) fun _ _ z => z)
  obtain ⟨w', H', I', rw', b, eb, q'⟩ := z
  subst eb
  obtain rfl : r = Value.bool b := rw'
  exact ⟨H', I', q'⟩
/-- not a, by its truth -/
def tNotR (r : V → Hp → (Bool → Hp → Prop) → Prop) (ta : TE) : TE := fun σ H Q => ta σ H fun x H1 => r x H1 fun b H2 => Q (.bl (!b)) H2
theorem pe_notR {r : V → Hp → (Bool → Hp → Prop) → Prop} (hr : TruR X r) (he : PE X o ta) : PE X (.UnaryOp .Not o pos) (tNotR r ta) := ⟨fun pins s σ H Q I h => by
  refine UnaryOp_ (thn (he.run pins s σ H _ I h) fun u s1 hu => ?_)
  obtain ⟨y, H1, I1, ry, q⟩ := hu
  unfold unaryOp
  refine wpAny_holding (wpAny_bind (wpAny_mono (hr pins s1 σ H1 y u _ I1 ry q) (fun b s' z => ?_) fun _ _ z => z))
  obtain ⟨H2, I2, q2⟩ := z
  exact wpAny_pure ⟨V.bl (!b), H2, I2, rfl, q2⟩⟩
end
/-! ### kinds -/
def TyBS (K : PySem.W.Frag) (Mu : Mm) (s : SV) (t : Value) : Prop := ∀ B S ls H v, HS K B S ls Mu H → s.p K S ls v → TyB K H v t
section
variable {ω ι : Type} {K : PySem.W.Frag} {W : Xw} {T : List XcD} {G : Gm} {Mu Mu0 Mu1 Mu2 : Mm} {te te2 : TE} {F : FS ι ω} {x : ι} {w : ω} {Es : L2.St → XK} {s s2 : SV} {cn m : Str} {ks : List Nat} {ps : List (Option Addr)} {t : TV} {mv : MV} {Mp : Mm} {y : Xc} {g0 : Option Gm} {ns : List Str} {ts : List TV} {tt : Value} {i : Int}
theorem tyb_ins (c : InsF K cn) : TyBS K Mu (.val (oT cn ns ts)) (.ref (He.ga K cn)) := fun B S ls H v hs p => .inl ⟨tys_ins c B S ls H v hs p, _, rfl⟩
theorem tyb_int : TyBS K Mu (vI i) (.type "int") := fun B S ls H v hs p => .inr ⟨rfl, i, p⟩
theorem ef_binS (ho : EvV K te G Mu Mu0 s) (ho2 : EvV K te2 G Mu0 Mu1 s2) (hi0 : IsIns K Mu1 s cn m) (ht : TyBS K Mu1 s2 tt) (hm : F.m x = .ok w) (hk : okKs ks Mu1.length = true := by rfl) (hc : okC ks [s, s2] = true := by rfl) (hi : F.ins x = [s, s2].map (renC ks) := by rfl) (hC : selN none Mu1 ks = pinL ps (F.cells x) := by rfl) (hP : okP ps (F.cells x) = true := by rfl) (hr : F.out x w = .rf mv Mp := by rfl) (hp : Mp.length = ks.length := by rfl) {sp : Sp} (hsp : SpLe (spT K T F) sp := by exact fun _ _ _ _ h => h) :
    EvF K (tBinS K (He.ga K cn) sp Es tt te te2) G Mu (putAll Mu1 ks (pinL ps Mp)) mv := fun B σ S ls H Q sl hs q =>
  ho B σ S ls H _ sl hs fun v S0 l0 H0 a0 b0 c0 d0 => ho2 B σ S0 l0 H0 _ (sl.mono a0 b0) c0 fun v2 S1 l1 H1 a1 b1 c1 d1 => by
    have d0 := SV.mono a1 b1 d0
    obtain ⟨a, dx, fs, e1, e2, e3⟩ := hi0 B S1 l1 H1 v c1 d0
    refine ⟨⟨a, dx, fs, e1, e2⟩, ht B S1 l1 H1 v2 c1 d1, ?_⟩
    refine hsp _ _ _ _ ?_
    refine sp_call c1 (.cons d0 (.cons d1 .nil)) hk hc hi hC hP hm fun C back => ?_
    rw [hr]
    exact acc_rf c1 hp back (q.mono (a0.trans a1) (b0.trans b1))
theorem ex_binS (ho : EvV K te G Mu Mu0 s) (ho2 : EvV K te2 G Mu0 Mu1 s2) (hi0 : IsIns K Mu1 s cn m) (ht : TyBS K Mu1 s2 tt) (hm : F.m x = .ok w) (hk : okKs ks Mu1.length = true := by rfl) (hc : okC ks [s, s2] = true := by rfl) (hi : F.ins x = [s, s2].map (renC ks) := by rfl) (hC : selN none Mu1 ks = pinL ps (F.cells x) := by rfl) (hP : okP ps (F.cells x) = true := by rfl) (hr : F.out x w = .ex y g0 Mp := by rfl) (hp : Mp.length = ks.length := by rfl) {sp : Sp} (hsp : SpLe (spT K W.T F) sp := by exact fun _ _ _ _ h => h) :
    EvX K W (tBinS K (He.ga K cn) sp (fun σ cls d H' => W.W cls d σ H') tt te te2) G Mu (putAll Mu1 ks (pinL ps Mp)) y := fun B σ S ls H Q sl hs q =>
  ho B σ S ls H _ sl hs fun v S0 l0 H0 a0 b0 c0 d0 => ho2 B σ S0 l0 H0 _ (sl.mono a0 b0) c0 fun v2 S1 l1 H1 a1 b1 c1 d1 => by
    have d0 := SV.mono a1 b1 d0
    obtain ⟨a, dx, fs, e1, e2, e3⟩ := hi0 B S1 l1 H1 v c1 d0
    refine ⟨⟨a, dx, fs, e1, e2⟩, ht B S1 l1 H1 v2 c1 d1, ?_⟩
    refine hsp _ _ _ _ ?_
    refine sp_call c1 (.cons d0 (.cons d1 .nil)) hk hc hi hC hP hm fun C back => ?_
    rw [hr]
    exact acc_ex c1 hp back (q.mono (a0.trans a1) (b0.trans b1))
theorem ex_binS1 {sp : Sp} {C : Addr} (ho : EvX K W te G Mu Mu1 y) : EvX K W (tBinS K C sp Es tt te te2) G Mu Mu1 y := fun B σ S ls H Q sl hs q => ho B σ S ls H _ sl hs q
theorem ex_binS2 {sp : Sp} {C : Addr} (ho : EvV K te G Mu Mu0 s) (ho2 : EvX K W te2 G Mu0 Mu1 y) : EvX K W (tBinS K C sp Es tt te te2) G Mu Mu1 y := fun B σ S ls H Q sl hs q =>
  ho B σ S ls H _ sl hs fun v S0 l0 H0 a0 b0 c0 d0 => ho2 B σ S0 l0 H0 _ (sl.mono a0 b0) c0 (q.mono a0 b0)
/-- truth -/
theorem ev_notO {sp : Sp} {b : Bool} (ho : EvV K te G Mu Mu1 s) (hi0 : IsIns K Mu1 s cn m) (hm : F.m x = .ok w) (hi : F.ins x = [s].map (renC []) := by rfl) (hc : okC [] [s] = true := by rfl) (hC : F.cells x = [] := by rfl) (hr : F.out x w = .rt (tv rBool b) [] := by rfl) (hsp : SpLe (spT K T F) sp := by exact fun _ _ _ _ h => h) : EvV K (tNotR (rTruO (He.ga K cn) sp) te) G Mu Mu1 (vB (!b)) := fun B σ S ls H Q sl hs q =>
  ho B σ S ls H _ sl hs fun v S1 l1 H1 a1 b1 c1 d1 => by
    obtain ⟨a, dx, fs, e1, e2, _⟩ := hi0 B S1 l1 H1 v c1 d1
    refine ⟨⟨a, dx, fs, e1, e2⟩, ?_⟩
    refine hsp _ _ _ _ ?_
    refine sp_call (ks := []) (ps := []) c1 (.cons d1 .nil) rfl hc hi (by rw [hC]; rfl) (by unfold okP; rfl) hm fun C back => ?_
    rw [hr]
    refine acc_rt c1 rfl back fun v' S' l' H' a' b' c' d' => ⟨b, d', ?_⟩
    exact q _ S' l' H' (a1.trans a') (b1.trans b') (by unfold pinL putAll at c'; exact c') rfl
theorem ex_notO {r : V → Hp → (Bool → Hp → Prop) → Prop} (ho : EvX K W te G Mu Mu1 y) : EvX K W (tNotR r te) G Mu Mu1 y := fun B σ S ls H Q sl hs q => ho B σ S ls H _ sl hs q
theorem rv_inO {b : Bool} {sa sb : SV} (hi0 : IsIns K Mu sb cn m) (hm : F.m x = .ok w) (hi : F.ins x = [sb, sa].map (renC []) := by rfl) (hc : okC [] [sb, sa] = true := by rfl) (hC : F.cells x = [] := by rfl) (ho : F.out x w = .rt (tv rBool b) [] := by rfl) {sp : Sp} (hsp : SpLe (spT K T F) sp := by exact fun _ _ _ _ h => h) : Rv K (rIn2 (He.ga K cn) false sp) Mu Mu sa sb (vB b) := fun B S ls H u v Q hs ha hb q => by
  obtain ⟨a, dx, fs, e1, e2, _⟩ := hi0 B S ls H v hs hb
  refine ⟨⟨a, dx, fs, e1, e2⟩, ?_⟩
  refine hsp _ _ _ _ ?_
  refine sp_call (ks := []) (ps := []) hs (.cons hb (.cons ha .nil)) rfl hc hi (by rw [hC]; rfl) (by unfold okP; rfl) hm fun C back => ?_
  rw [ho]
  exact acc_rt hs rfl back fun v' S' l' H' a' b' c' d' => ⟨b, d', by rw [Bool.xor_false]; exact q _ S' l' H' a' b' (by unfold pinL putAll at c'; exact c') rfl⟩
end
end TL

/-! TLz: zip of texts; texts walked; signs sought from a place on; int of a sign. -/
namespace TL
open PySem PySem.Spec PyProof.Rows L2
section
variable {prog : Program} {w : World} {A : Around} {E : Value → Shared → Prop} {s : Shared} {z TI TO i1 i2 it : Addr} {k : Nat} {x y : Str} {t u : Tok} {ty ty1 ty2 : String} {a b : Value} {c d : Nat}
def StrTy (ty : String) : Prop := ty = "str_ascii_iterator" ∨ ty = "str_iterator"
theorem nx_str {Q : Value → Shared → Prop} (ht : StrTy ty) (h : s.heap.IsStrIter it ty x t k) (e : x.cps[k]? = some c) (q : ∀ h', h'.IsStrIter it ty x t (k + 1) → Heap.SameBut it s.heap h' → Q (.str ⟨#[c]⟩ s.toks) { s with heap := h', toks := s.toks + 1 }) : wpAny (model prog w) A (Builtin.SmallTypes.nextOf (.ref it)) Q E s := by
  rcases ht with rfl | rfl
  · exact wpAny_nextOf_ascii_item h e q
  · exact wpAny_nextOf_wide_item h e q
structure ZA (z TI TO i1 i2 : Addr) : Prop where
  TIz : TI ≠ z
  TOz : TO ≠ z
  i1z : i1 ≠ z
  i2z : i2 ≠ z
  TITO : TI ≠ TO
  TIi1 : TI ≠ i1
  TIi2 : TI ≠ i2
  TOi1 : TO ≠ i1
  TOi2 : TO ≠ i2
  i12 : i1 ≠ i2

theorem strIter_sb {h h' : Heap} (H : h.IsStrIter it ty x t k) (g : h'.get? it = h.get? it) : h'.IsStrIter it ty x t k := by
  obtain ⟨o, e, r⟩ := H
  exact ⟨o, g.trans e, r⟩
theorem zx_item {Q : Value → Shared → Prop} (za : ZA z TI TO i1 i2) (hz : IsZip s.heap z TI TO .none) (hTI : IsPair s.heap TI (.ref i1) (.ref i2)) (hTO : IsPair s.heap TO a b) (t1 : StrTy ty1) (t2 : StrTy ty2) (h1 : s.heap.IsStrIter i1 ty1 x t k) (h2 : s.heap.IsStrIter i2 ty2 y u k) (e1 : x.cps[k]? = some c) (e2 : y.cps[k]? = some d)
    (q : ∀ h' tk v1 v2, IsZip h' z TI TO (rawInt (s.heap.objs.size : Nat)) → IsPair h' TI (.ref i1) (.ref i2) → IsPair h' TO (.str ⟨#[c]⟩ v1) (.str ⟨#[d]⟩ v2) → h'.IsStrIter i1 ty1 x t (k + 1) → h'.IsStrIter i2 ty2 y u (k + 1) → IsPair h' s.heap.objs.size (.str ⟨#[c]⟩ v1) (.str ⟨#[d]⟩ v2) → h'.objs.size = s.heap.objs.size + 1 →
      (∀ (b : Addr) (o : Obj), b ≠ z → b ≠ TO → b ≠ i1 → b ≠ i2 → s.heap.get? b = some o → h'.get? b = some o) → Q (.ref s.heap.objs.size) { s with heap := h', toks := tk }) :
    wpAny (model prog w) A (Builtin.«zip.__next__» ⟨[.ref z], []⟩) (fun fin s' => ∃ v, fin = .done (.ret v) ∧ Q v s') E s := by
  obtain ⟨TIz, TOz, i1z, i2z, TITO, TIi1, TIi2, TOi1, TOi2, i12⟩ := za
  unfold Builtin.«zip.__next__»
  refine wpAny_bind (wpAny_of_eq (a := ((Value.ref z : Value), ([] : List Value))) rfl ?_)
  refine wpAny_bind (wpAny_field hz rfl (x := .bool false) rfl ?_)
  refine wpAny_bind (wpAny_field hz rfl (x := .ref TI) rfl ?_)
  refine wpAny_bind (wpAny_seqItems hTI rfl ?_)
  dsimp only
  rw [if_neg (show ¬ ((#[Value.ref i1, Value.ref i2] : Array Value).isEmpty = true) from Bool.false_ne_true)]
  unfold Builtin.SmallTypes.ownedTupleIsFree
  refine wpAny_bind (wpAny_bind (wpAny_field hz rfl (x := .none) rfl (wpAny_pure ?_)))
  rw [if_pos rfl]
  refine wpAny_bind (wpAny_rule (wpAny_bind (wpAny_field hz rfl (x := .ref TO) rfl (wpAny_bind (wpAny_setField hz rfl (by simp) ?_)))))
  have hz0 := Heap.get?_update_self (Obj.mapFields fun q => q.setIfInBounds 0 Value.ellipsis) hz rfl
  have sb0 : Heap.SameBut z s.heap (s.heap.update z (Obj.mapFields fun q => q.setIfInBounds 0 Value.ellipsis)) := Heap.SameBut.update ..
  generalize s.heap.update z (Obj.mapFields fun q => q.setIfInBounds 0 Value.ellipsis) = hA at hz0 sb0 ⊢
  have gA : ∀ b, b ≠ z → hA.get? b = s.heap.get? b := fun b hb => sb0.2 b hb
  simp only [List.zipIdx_cons, List.zipIdx_nil, List.forIn_cons, List.forIn_nil]
  refine wpAny_bind (wpAny_bind (wpAny_bind (wpAny_onRaise ?_)))
  refine wpAny_bind (m := Builtin.SmallTypes.nextOf (.ref i1)) ?_
  refine nx_str (s := { s with heap := hA }) t1 (strIter_sb h1 (gA _ i1z)) e1 fun hB i1B sbB => wpAny_pure ?_
  have gB : ∀ b, b ≠ z → b ≠ i1 → hB.get? b = s.heap.get? b := fun b hb hb1 => (sbB.2 b hb1).trans (gA b hb)
  have TOB : IsPair hB TO a b := (gB TO TOz TOi1).trans hTO
  have zB := (sbB.2 z (Ne.symm i1z)).trans hz0
  dsimp only
  refine wpAny_bind (wpAny_seqItems TOB rfl ?_)
  refine wpAny_bind (wpAny_updateSeq TOB rfl ?_ (by show 2 ≤ sizeLine; decide) (by show 2 ≤ sizeLine + 1; decide))
  refine wpAny_bind (wpAny_letGo (wpAny_pure ?_))
  have TOC0 := Heap.get?_update_self (Obj.mapSeq fun q => q.setIfInBounds 0 (Value.str ⟨#[c]⟩ s.toks)) TOB rfl
  have sbC : Heap.SameBut TO hB (hB.update TO (Obj.mapSeq fun q => q.setIfInBounds 0 (Value.str ⟨#[c]⟩ s.toks))) := Heap.SameBut.update ..
  generalize hB.update TO (Obj.mapSeq fun q => q.setIfInBounds 0 (Value.str ⟨#[c]⟩ s.toks)) = hC at TOC0 sbC ⊢
  have TOC : IsPair hC TO (.str ⟨#[c]⟩ s.toks) b := TOC0
  have zC := (sbC.2 z (Ne.symm TOz)).trans zB
  have i1C := strIter_sb i1B (sbC.2 i1 (Ne.symm TOi1))
  have gC : ∀ b, b ≠ z → b ≠ i1 → b ≠ TO → hC.get? b = s.heap.get? b := fun b hb hb1 hb2 => (sbC.2 b hb2).trans (gB b hb hb1)
  dsimp only
  refine wpAny_bind (wpAny_bind (wpAny_onRaise ?_))
  refine wpAny_bind (m := Builtin.SmallTypes.nextOf (.ref i2)) ?_
  refine nx_str t2 (strIter_sb h2 (gC _ i2z (Ne.symm i12) (Ne.symm TOi2))) e2 fun hD i2D sbD => wpAny_pure ?_
  have TOD : IsPair hD TO (.str ⟨#[c]⟩ s.toks) b := (sbD.2 TO TOi2).trans TOC
  have zD := (sbD.2 z (Ne.symm i2z)).trans zC
  have i1D := strIter_sb i1C (sbD.2 i1 i12)
  dsimp only
  refine wpAny_bind (wpAny_seqItems TOD rfl ?_)
  refine wpAny_bind (wpAny_updateSeq TOD rfl ?_ (by show 2 ≤ sizeLine; decide) (by show 2 ≤ sizeLine + 1; decide))
  refine wpAny_bind (wpAny_letGo (wpAny_pure ?_))
  dsimp only
  have TOE0 := Heap.get?_update_self (Obj.mapSeq fun q => q.setIfInBounds (0 + 1) (Value.str ⟨#[d]⟩ (s.toks + 1))) TOD rfl
  have sbE : Heap.SameBut TO hD (hD.update TO (Obj.mapSeq fun q => q.setIfInBounds (0 + 1) (Value.str ⟨#[d]⟩ (s.toks + 1)))) := Heap.SameBut.update ..
  generalize hD.update TO (Obj.mapSeq fun q => q.setIfInBounds (0 + 1) (Value.str ⟨#[d]⟩ (s.toks + 1))) = hE at TOE0 sbE ⊢
  have TOE : IsPair hE TO (.str ⟨#[c]⟩ s.toks) (.str ⟨#[d]⟩ (s.toks + 1)) := TOE0
  have zE := (sbE.2 z (Ne.symm TOz)).trans zD
  have i1E := strIter_sb i1D (sbE.2 i1 (Ne.symm TOi1))
  have i2E := strIter_sb i2D (sbE.2 i2 (Ne.symm TOi2))
  have szE : hE.objs.size = s.heap.objs.size := sbE.1.trans (sbD.1.trans (sbC.1.trans (sbB.1.trans sb0.1)))
  refine wpAny_pure ?_
  dsimp only
  refine wpAny_bind (wpAny_seqItems TOE rfl ?_)
  dsimp only
  refine wpAny_bind (wpAny_newTuple ?_ (by show 2 ≤ sizeLine; decide))
  unfold Builtin.SmallTypes.ownedTupleHandOut
  have zF := Heap.get?_push_of_some { cls := .type "tuple", data := .seq #[.str ⟨#[c]⟩ s.toks, .str ⟨#[d]⟩ (s.toks + 1)] } zE
  have up : ∀ b o, hE.get? b = some o → (hE.push { cls := .type "tuple", data := .seq #[.str ⟨#[c]⟩ s.toks, .str ⟨#[d]⟩ (s.toks + 1)] }).get? b = some o := fun b o y => Heap.get?_push_of_some _ y
  have TF := Heap.get?_push_size hE (o := { cls := .type "tuple", data := .seq #[.str ⟨#[c]⟩ s.toks, .str ⟨#[d]⟩ (s.toks + 1)] }) rfl
  have szF := Heap.size_push hE { cls := .type "tuple", data := .seq #[.str ⟨#[c]⟩ s.toks, .str ⟨#[d]⟩ (s.toks + 1)] }
  show wpAny _ _ (_ >>= _) _ _ { heap := hE.push { cls := .type "tuple", data := .seq #[.str ⟨#[c]⟩ s.toks, .str ⟨#[d]⟩ (s.toks + 1)] }, gens := s.gens, drawn := s.drawn, toks := s.toks + 1 + 1, os := s.os }
  generalize hE.push { cls := .type "tuple", data := .seq #[.str ⟨#[c]⟩ s.toks, .str ⟨#[d]⟩ (s.toks + 1)] } = hF at zF up TF szF ⊢
  dsimp only
  refine wpAny_bind (wpAny_bind (wpAny_setField zF rfl (by show 0 < 5; decide) ?_))
  have zG0 := Heap.get?_update_self (Obj.mapFields fun q => q.setIfInBounds 0 (rawInt (hE.objs.size : Nat))) zF rfl
  have sbG : Heap.SameBut z hF (hF.update z (Obj.mapFields fun q => q.setIfInBounds 0 (rawInt (hE.objs.size : Nat)))) := Heap.SameBut.update ..
  generalize hF.update z (Obj.mapFields fun q => q.setIfInBounds 0 (rawInt (hE.objs.size : Nat))) = hG at zG0 sbG ⊢
  refine wpAny_setField zG0 rfl (by show 1 < 5; decide) ?_
  have zH0 := Heap.get?_update_self (Obj.mapFields fun q => q.setIfInBounds 1 (Value.bool false)) zG0 rfl
  have sbH : Heap.SameBut z hG (hG.update z (Obj.mapFields fun q => q.setIfInBounds 1 (Value.bool false))) := Heap.SameBut.update ..
  generalize hG.update z (Obj.mapFields fun q => q.setIfInBounds 1 (Value.bool false)) = hH at zH0 sbH ⊢
  refine wpAny_pure ⟨.ref hE.objs.size, rfl, ?_⟩
  have lz : z < hE.objs.size := Heap.lt_size zE
  have gH : ∀ b, b ≠ z → hH.get? b = hF.get? b := fun b hb => (sbH.2 b hb).trans (sbG.2 b hb)
  rw [szE] at lz ⊢
  rw [szE] at zH0 TF
  have i1F := strIter_sb (h' := hF) i1E (by obtain ⟨o, e, _⟩ := i1E; rw [e]; exact up _ _ e)
  have i2F := strIter_sb (h' := hF) i2E (by obtain ⟨o, e, _⟩ := i2E; rw [e]; exact up _ _ e)
  refine q hH (s.toks + 1 + 1) s.toks (s.toks + 1) zH0 ((gH TI TIz).trans (up _ _ ?_)) ((gH TO TOz).trans (up _ _ TOE)) (strIter_sb i1F (gH _ i1z)) (strIter_sb i2F (gH _ i2z)) ((gH _ (Nat.ne_of_gt lz)).trans TF) ?_ fun b' o n1 n2 n3 n4 e => (gH b' n1).trans (up _ _ ?_)
  · exact (sbE.2 TI TITO).trans ((sbD.2 TI TIi2).trans ((gC TI TIz TIi1 TITO).trans hTI))
  · rw [sbH.1, sbG.1, szF, szE]
  · exact (sbE.2 b' n2).trans ((sbD.2 b' n4).trans ((gC b' n1 n3 n2).trans e))

theorem nx_strE {Q : Value → Shared → Prop} (hh : A.handled = none) (ht : StrTy ty) (h : s.heap.IsStrIter it ty x t k) (e : x.cps[k]? = none) (q : ∀ (h' : Heap) (e : Addr), Heap.ExtBut it s.heap h' → (∃ o, h'.get? e = some o ∧ o.cls = .type "StopIteration") → E (.ref e) { s with heap := h' }) : wpAny (model prog w) A (Builtin.SmallTypes.nextOf (.ref it)) Q E s := by
  rcases ht with rfl | rfl
  · exact wpAny_nextOf_ascii_end hh h e q
  · exact wpAny_nextOf_wide_end hh h e q
theorem zx_end {Q : Fin → Shared → Prop} (hh : A.handled = none) (za : ZA z TI TO i1 i2) (hz : IsZip s.heap z TI TO .none) (hTI : IsPair s.heap TI (.ref i1) (.ref i2)) (t1 : StrTy ty1) (h1 : s.heap.IsStrIter i1 ty1 x t k) (e1 : x.cps[k]? = none)
    (q : ∀ h' e, (∀ (b : Addr) (o : Obj), b ≠ z → b ≠ i1 → s.heap.get? b = some o → h'.get? b = some o) → (∃ o, h'.get? e = some o ∧ o.cls = .type "StopIteration") → E (.ref e) { s with heap := h' }) :
    wpAny (model prog w) A (Builtin.«zip.__next__» ⟨[.ref z], []⟩) Q E s := by
  obtain ⟨TIz, TOz, i1z, i2z, TITO, TIi1, TIi2, TOi1, TOi2, i12⟩ := za
  unfold Builtin.«zip.__next__»
  refine wpAny_bind (wpAny_of_eq (a := ((Value.ref z : Value), ([] : List Value))) rfl ?_)
  refine wpAny_bind (wpAny_field hz rfl (x := .bool false) rfl ?_)
  refine wpAny_bind (wpAny_field hz rfl (x := .ref TI) rfl ?_)
  refine wpAny_bind (wpAny_seqItems hTI rfl ?_)
  dsimp only
  rw [if_neg (show ¬ ((#[Value.ref i1, Value.ref i2] : Array Value).isEmpty = true) from Bool.false_ne_true)]
  unfold Builtin.SmallTypes.ownedTupleIsFree
  refine wpAny_bind (wpAny_bind (wpAny_field hz rfl (x := .none) rfl (wpAny_pure ?_)))
  rw [if_pos rfl]
  refine wpAny_bind (wpAny_rule (wpAny_bind (wpAny_field hz rfl (x := .ref TO) rfl (wpAny_bind (wpAny_setField hz rfl (by simp) ?_)))))
  have hz0 := Heap.get?_update_self (Obj.mapFields fun q => q.setIfInBounds 0 Value.ellipsis) hz rfl
  have sb0 : Heap.SameBut z s.heap (s.heap.update z (Obj.mapFields fun q => q.setIfInBounds 0 Value.ellipsis)) := Heap.SameBut.update ..
  generalize s.heap.update z (Obj.mapFields fun q => q.setIfInBounds 0 Value.ellipsis) = hA at hz0 sb0 ⊢
  have gA : ∀ b, b ≠ z → hA.get? b = s.heap.get? b := fun b hb => sb0.2 b hb
  simp only [List.zipIdx_cons, List.zipIdx_nil, List.forIn_cons, List.forIn_nil]
  refine wpAny_bind (wpAny_bind (wpAny_bind (wpAny_onRaise ?_)))
  refine wpAny_bind (m := Builtin.SmallTypes.nextOf (.ref i1)) ?_
  refine nx_strE (s := { s with heap := hA }) hh t1 (strIter_sb h1 (gA _ i1z)) e1 fun hB e eb ⟨o, eo, ec⟩ => ?_
  have zB := eb z _ (Ne.symm i1z) hz0
  refine wpAny_setField zB rfl (by show 0 < 5; decide) ?_
  have sbC : Heap.SameBut z hB (hB.update z (Obj.mapFields fun q => q.setIfInBounds 0 Value.none)) := Heap.SameBut.update ..
  have ne : e ≠ z := fun h => by
    subst h
    rw [zB] at eo
    cases eo
    exact absurd (Value.type.inj (show Value.type "zip" = Value.type "StopIteration" from ec)) (by decide)
  exact q _ e (fun b o n1 n2 g => (sbC.2 b n1).trans (eb b o n2 ((gA b n1).trans g))) ⟨o, (sbC.2 e ne).trans eo, ec⟩
theorem pn_item {Q : Option Value → Shared → Prop} {TI TO : Addr} {f0 : Value} (hz : IsZip s.heap z TI TO f0) (h : wpAny (model prog w) A.in1 (Builtin.«zip.__next__» ⟨[.ref z], []⟩) (fun fin s' => ∃ v, fin = .done (.ret v) ∧ Q (some v) s') (fun _ _ => False) s) : wpAny (model prog w) A (pyNext (.ref z)) Q E s := by
  have T : s.TypeIs (.ref z) "zip" := ⟨_, hz, rfl⟩
  unfold pyNext
  refine wpAny_bind (wpAny_attempt (wpAny_callSpecial?_slot T F.slot_zip_next (wpAny_call_entry F.slot_zip_next T F.entry_zip_next (wpAny_mono h (fun r s' ⟨v, e, q⟩ => ⟨v, e, wpAny_pure q⟩) fun _ _ z => z.elim) (F.args_zip_next_1 _))))
theorem pn_end {Q : Option Value → Shared → Prop} {TI TO : Addr} {f0 : Value} (hz : IsZip s.heap z TI TO f0) (h : wpAny (model prog w) A.in1 (Builtin.«zip.__next__» ⟨[.ref z], []⟩) (fun _ _ => False) (fun v s' => ∃ e o, v = .ref e ∧ s'.heap.get? e = some o ∧ o.cls = .type "StopIteration" ∧ Q none s') s) : wpAny (model prog w) A (pyNext (.ref z)) Q E s := by
  have T : s.TypeIs (.ref z) "zip" := ⟨_, hz, rfl⟩
  unfold pyNext
  refine wpAny_bind (wpAny_attempt (wpAny_callSpecial?_slot T F.slot_zip_next (wpAny_call_entry F.slot_zip_next T F.entry_zip_next (wpAny_mono h (fun r s' z => z.elim) fun v s' z => ?_) (F.args_zip_next_1 _))))
  obtain ⟨e, o, rfl, eo, ec, q⟩ := z
  obtain ⟨oc, od, odt, osl⟩ := o
  obtain rfl : oc = .type "StopIteration" := ec
  dsimp only
  unfold isInstance
  wp_walk using AutoSeq1.wpAny_loadPart' eo
  refine wpAny_of_eq (a := true) (by rfl) ?_
  rw [if_pos rfl]
  exact wpAny_pure q
/-! making -/
def strIt (x : Str) (t : Tok) : Obj := { cls := .type (strIterType x), data := .fields #[.str x t, .int 0 0] }
theorem it_str {Q : Value → Shared → Prop} (q : Q (.ref s.heap.objs.size) { s with heap := s.heap.push (strIt x t) }) : wpAny (model prog w) A (pyIter (.str x t)) Q E s := by
  unfold strIt strIterType at q
  by_cases h : (x.cps.all fun x => decide (x < 128)) = true
  · rw [if_pos h] at q
    exact wpAny_pyIter_ascii h q
  · rw [if_neg h] at q
    exact wpAny_pyIter_wide (by simpa using h) q
theorem strTy_of : StrTy (strIterType x) := by
  unfold strIterType
  split
  · exact .inl rfl
  · exact .inr rfl
def pairO (a b : Value) : Obj := { cls := .type "tuple", data := .seq #[a, b] }
def zipO (TI TO : Addr) : Obj := { cls := .type "zip", data := .fields #[.none, .bool false, .bool false, .ref TI, .ref TO] }
def zH2 (h : Heap) (x : Str) (t : Tok) (y : Str) (u : Tok) : Heap := (h.push (strIt x t)).push (strIt y u)
def zH4 (h : Heap) (x : Str) (t : Tok) (y : Str) (u : Tok) : Heap := ((zH2 h x t y u).push (pairO (.ref h.objs.size) (.ref (h.push (strIt x t)).objs.size))).push (pairO .none .none)
def zH5 (h : Heap) (x : Str) (t : Tok) (y : Str) (u : Tok) : Heap := (zH4 h x t y u).push (zipO (zH2 h x t y u).objs.size ((zH2 h x t y u).push (pairO (.ref h.objs.size) (.ref (h.push (strIt x t)).objs.size))).objs.size)
theorem meets_zipX (x : Str) (t : Tok) (y : Str) (u : Tok) :
    Meets (Builtin.«zip.__new__» ⟨[.type "zip", .str x t, .str y u], []⟩) (fun _ R s => R (.ok (.ret (.ref (zH4 s.heap x t y u).objs.size))) { s with heap := zH5 s.heap x t y u }) :=
  .of_wp fun prog w A R s z => by
    obtain ⟨hp, g, d, tk, os⟩ := s
    have sb := sub_zip
    unfold Builtin.«zip.__new__»
    wp_walk using it_str
    exact ⟨_, rfl, z⟩
theorem call_zipX {Q : Value → Shared → Prop}
    (q : ∀ h', IsZip h' (s.heap.objs.size + 4) (s.heap.objs.size + 2) (s.heap.objs.size + 3) .none → IsPair h' (s.heap.objs.size + 2) (.ref s.heap.objs.size) (.ref (s.heap.objs.size + 1)) → IsPair h' (s.heap.objs.size + 3) .none .none → h'.IsStrIter s.heap.objs.size (strIterType x) x t 0 → h'.IsStrIter (s.heap.objs.size + 1) (strIterType y) y u 0 → (∀ b o, s.heap.get? b = some o → h'.get? b = some o) → Q (.ref (s.heap.objs.size + 4)) { s with heap := h' }) :
    wpAny (model prog w) A (call (.type "zip") [.str x t, .str y u]) Q E s := by
  refine callType_new F.called_zip (by decide) (F.typeCall_zip_2 _ _) (F.newCall_zip_2 _ _) (fun ob => F.args_object_init_3 ob _ _) F.entry_zip_new (meets_zipX x t y u) ?_
  have z1 : (s.heap.push (strIt x t)).objs.size = s.heap.objs.size + 1 := Heap.size_push ..
  have z2 : (zH2 s.heap x t y u).objs.size = s.heap.objs.size + 2 := by
    unfold zH2
    rw [Heap.size_push, z1]
  have z3 : ((zH2 s.heap x t y u).push (pairO (.ref s.heap.objs.size) (.ref (s.heap.objs.size + 1)))).objs.size = s.heap.objs.size + 3 := by rw [Heap.size_push, z2]
  have z4 : (zH4 s.heap x t y u).objs.size = s.heap.objs.size + 4 := by
    unfold zH4
    rw [z1, Heap.size_push, z3]
  have g2 : ∀ b o, (zH2 s.heap x t y u).get? b = some o → (zH5 s.heap x t y u).get? b = some o := fun b o e => by
    unfold zH5 zH4
    exact Heap.get?_push_of_some _ (Heap.get?_push_of_some _ (Heap.get?_push_of_some _ e))
  have p5 : (zH5 s.heap x t y u).get? (s.heap.objs.size + 4) = some (zipO (s.heap.objs.size + 2) (s.heap.objs.size + 3)) := by
    have := Heap.get?_push_size (zH4 s.heap x t y u) (o := zipO (s.heap.objs.size + 2) (s.heap.objs.size + 3)) rfl
    rw [z4] at this
    unfold zH5
    rw [z1, z2, z3]
    exact this
  have p3 : (zH5 s.heap x t y u).get? (s.heap.objs.size + 3) = some (pairO .none .none) := by
    have := Heap.get?_push_size ((zH2 s.heap x t y u).push (pairO (.ref s.heap.objs.size) (.ref (s.heap.objs.size + 1)))) (o := pairO .none .none) rfl
    rw [z3] at this
    unfold zH5 zH4
    rw [z1]
    exact Heap.get?_push_of_some _ this
  have p2 : (zH5 s.heap x t y u).get? (s.heap.objs.size + 2) = some (pairO (.ref s.heap.objs.size) (.ref (s.heap.objs.size + 1))) := by
    have := Heap.get?_push_size (zH2 s.heap x t y u) (o := pairO (.ref s.heap.objs.size) (.ref (s.heap.objs.size + 1))) rfl
    rw [z2] at this
    unfold zH5 zH4
    rw [z1]
    exact Heap.get?_push_of_some _ (Heap.get?_push_of_some _ this)
  have p1 : (zH2 s.heap x t y u).get? (s.heap.objs.size + 1) = some (strIt y u) := by
    have := Heap.get?_push_size (s.heap.push (strIt x t)) (o := strIt y u) rfl
    rw [z1] at this
    exact this
  have p0 : (zH2 s.heap x t y u).get? s.heap.objs.size = some (strIt x t) := Heap.get?_push_of_some _ (Heap.get?_push_size _ rfl)
  rw [z4]
  refine ⟨⟨_, p5, rfl⟩, q _ p5 p2 p3 ⟨_, g2 _ _ p0, rfl, rfl⟩ ⟨_, g2 _ _ p1, rfl, rfl⟩ fun b o e => g2 _ _ ?_⟩
  unfold zH2
  exact Heap.get?_push_of_some _ (Heap.get?_push_of_some _ e)
end
/-! ### the walk -/
def ItX (x y : Str) : It :=
  ⟨fun i _ => i < x.cps.size ∧ i < y.cps.size, fun i H v H' => ∃ T c d, v = .ref T ∧ H T = none ∧ H' = upd H T (.tup [.str ⟨#[c]⟩, .str ⟨#[d]⟩]) ∧ x.cps[i]? = some c ∧ y.cps[i]? = some d, fun i _ => x.cps.size ≤ i⟩
theorem turn_zipX {P : Program} {w : World} {K : PySem.W.Frag} {elts : List Expr} {kk : Nat} {tpos : Pos} (z TI TO i1 i2 : Addr) (x y : Str) (t u : Tok) (ty1 ty2 : String) (t1 : StrTy ty1) (t2 : StrTy ty2) (za : ZA z TI TO i1 i2) :
    Turn P w K (.Tuple elts kk tpos) (ItX x y) [z, TI, TO, i1, i2] z (fun i h => IsZip h z TI TO .none ∧ IsPair h TI (.ref i1) (.ref i2) ∧ (∃ a b, IsPair h TO a b) ∧ h.IsStrIter i1 ty1 x t i ∧ h.IsStrIter i2 ty2 y u i) where
  mem := by simp
  obj := fun i h st b hb => by
    obtain ⟨hz, hTI, ⟨a', b', hTO⟩, ⟨o1, g1, _, d1⟩, ⟨o2, g2, _, d2⟩⟩ := st
    rcases (show b = z ∨ b = TI ∨ b = TO ∨ b = i1 ∨ b = i2 by simpa using hb) with e | e | e | e | e <;> subst e
    · exact ⟨_, hz, fun v q => by cases q⟩
    · exact ⟨_, hTI, fun v q => by cases q⟩
    · exact ⟨_, hTO, fun v q => by cases q⟩
    · exact ⟨_, g1, fun v q => by rw [d1] at q; cases q⟩
    · exact ⟨_, g2, fun v q => by rw [d2] at q; cases q⟩
  keep := fun i h h' st k => by
    obtain ⟨hz, hTI, ⟨a', b', hTO⟩, ⟨o1, g1, r1⟩, ⟨o2, g2, r2⟩⟩ := st
    exact ⟨k z (by simp) _ hz, k TI (by simp) _ hTI, ⟨a', b', k TO (by simp) _ hTO⟩, ⟨o1, k i1 (by simp) _ g1, r1⟩, ⟨o2, k i2 (by simp) _ g2, r2⟩⟩
  item := by
    intro X hP hw hK hc i pins s σ H E I hf st hg
    subst hP hw hK
    obtain ⟨hz, hTI, ⟨a', b', hTO⟩, h1, st2⟩ := st
    have h2 := st2
    obtain ⟨l1, l2⟩ := hg
    have e1 : x.cps[i]? = some x.cps[i] := by simp [l1]
    have e2 : y.cps[i]? = some y.cps[i] := by simp [l2]
    refine pn_item hz (zx_item za hz hTI hTO t1 t2 h1 h2 e1 e2 fun h' tk v1 v2 hz' hTI' hTO' h1' h2' hT hsz hk => ?_)
    refine ⟨_, rfl, wpAny_letOwnedTupleGo_zip (s := { s with heap := h', toks := tk }) hz' fun h2 hz2 sb => ?_⟩
    have lz : z < s.heap.objs.size := Heap.lt_size hz
    have hT2 : h2.get? s.heap.objs.size = some { cls := .type "tuple", data := .seq #[.str ⟨#[x.cps[i]]⟩ v1, .str ⟨#[y.cps[i]]⟩ v2] } := (sb.2 _ (Nat.ne_of_gt lz)).trans hT
    have nw : ObjOk X.prog X.w (upd H s.heap.objs.size (.tup [.str ⟨#[x.cps[i]]⟩, .str ⟨#[y.cps[i]]⟩])) h2 s.heap.objs.size (.tup [.str ⟨#[x.cps[i]]⟩, .str ⟨#[y.cps[i]]⟩]) := ⟨by show 2 ≤ sizeLine; decide, [.str ⟨#[x.cps[i]]⟩ v1, .str ⟨#[y.cps[i]]⟩ v2], .cons ⟨_, rfl⟩ (.cons ⟨_, rfl⟩ .nil), ⟨_, hT2, rfl, _, rfl⟩⟩
    have I1 : Inv X pins σ (upd H s.heap.objs.size (.tup [.str ⟨#[x.cps[i]]⟩, .str ⟨#[y.cps[i]]⟩])) { s with heap := h2, toks := tk } :=
      I.turnedNew (ch := [z, TI, TO, i1, i2]) (fun b ob nb' q => (sb.2 b (fun e => nb' (by simp [e]))).trans (hk b ob (fun e => nb' (by simp [e])) (fun e => nb' (by simp [e])) (fun e => nb' (by simp [e])) (fun e => nb' (by simp [e])) q)) hf (Nat.le_refl _) nw
    refine ⟨.ref s.heap.objs.size, _, I1, rfl, ⟨_, _, _, rfl, I.hok.fresh (Nat.le_refl _), rfl, e1, e2⟩, ⟨hz2, (sb.2 TI za.TIz).trans hTI', ⟨_, _, (sb.2 TO za.TOz).trans hTO'⟩, strIter_sb h1' (sb.2 i1 za.i1z), strIter_sb h2' (sb.2 i2 za.i2z)⟩, fun b hb => ?_⟩
    have hb' : b < s.heap.objs.size := by
      have q1 : i1 < s.heap.objs.size := by
        obtain ⟨o1, g1, _⟩ := h1
        exact Heap.lt_size g1
      have q2 : i2 < s.heap.objs.size := by
        obtain ⟨o2, g2, _⟩ := st2
        exact Heap.lt_size g2
      rcases (show b = z ∨ b = TI ∨ b = TO ∨ b = i1 ∨ b = i2 by simpa using hb) with e | e | e | e | e <;> subst e
      · exact lz
      · exact Heap.lt_size hTI
      · exact Heap.lt_size hTO
      · exact q1
      · exact q2
    rw [upd_ne (Nat.ne_of_lt hb')]
    exact (hf b hb).1
  done := by
    intro X hP hw hK hc i pins s σ H E I hf st hg
    subst hP hw hK
    obtain ⟨hz, hTI, ⟨a', b', hTO⟩, h1, h2⟩ := st
    have e1 : x.cps[i]? = none := by simp; exact hg
    refine pn_end hz (zx_end (I.ok.hd hc) za hz hTI t1 h1 e1 fun h' e hk ⟨o, eo, ec⟩ => ⟨e, o, rfl, eo, ec, rfl, ?_⟩)
    exact I.turnedL (ch := [z, TI, TO, i1, i2]) (fun b o nb' q => hk b o (fun e => nb' (by simp [e])) (fun e => nb' (by simp [e])) q) hf
  self := fun A i s Q E st h => wpAny_pyIter_zip st.1 h
theorem za_of (n : Nat) : ZA (n + 4) (n + 2) (n + 3) n (n + 1) := by
  constructor <;> exact fun h => absurd (show (_ : Nat) = _ from h) (by omega)
def iZipX (ta : TA) : TI := fun σ H R => ta σ H fun vs H1 => ∃ x y, vs = [.str x, .str y] ∧ R (ItX x y) H1
theorem pi_zipX {X : Cx} {e e2 : Expr} {ta : TA} {p pos tpos : Pos} {elts : List Expr} {kk : Nat} (hg : Gl X "zip") (hm : X.mg "zip" = none) (ha : PA X [e, e2] ta) (hs : starEach [e, e2] X.env = (false, eval e X.env) :: starEach [e2] X.env := by rfl) (hp : ((backTo pos (starEach [e2] X.env)).any fun x => x.1) = false := by rfl) :
    PI X (.Tuple elts kk tpos) (.Call (.Name "zip" p) [e, e2] [] pos) (iZipX ta) := by
  refine ⟨fun pins s σ H R I z => ?_⟩
  refine Call_ (ld_blt I hg hm boot_zip (PyProof.Rows.callWith_type1 (thn (ha.run pos pins s σ H _ I z) fun us s1 ⟨vs, H1, I1, r1, x, y, ex, q⟩ => ?_) hs hp))
  subst ex
  obtain ⟨u1, u2, eu, q1, q2⟩ := vals2 r1
  subst eu
  obtain ⟨t, rfl⟩ := (show ∃ t, u1 = Value.str x t from q1)
  obtain ⟨u, rfl⟩ := (show ∃ t, u2 = Value.str y t from q2)
  refine call_zipX fun h' hz hTI hTO h1 h2 hk => wpAny_pyIter_zip hz ?_
  have I2 : Inv X pins σ H1 { s1 with heap := h' } := I1.kept (t' := s1.toks) hk
  have za : ZA (s1.heap.objs.size + 4) (s1.heap.objs.size + 2) (s1.heap.objs.size + 3) s1.heap.objs.size (s1.heap.objs.size + 1) := za_of _
  refine ⟨s1.heap.objs.size + 4, [s1.heap.objs.size + 4, s1.heap.objs.size + 2, s1.heap.objs.size + 3, s1.heap.objs.size, s1.heap.objs.size + 1], _, _, H1, rfl, I2, turn_zipX _ _ _ _ _ x y t u _ _ strTy_of strTy_of za, ⟨hz, hTI, ⟨_, _, hTO⟩, h1, h2⟩, fun b hb => ?_, q⟩
  have hle : s1.heap.objs.size ≤ b := by
    rcases (show b = s1.heap.objs.size + 4 ∨ b = s1.heap.objs.size + 2 ∨ b = s1.heap.objs.size + 3 ∨ b = s1.heap.objs.size ∨ b = s1.heap.objs.size + 1 by simpa using hb) with e | e | e | e | e <;> rw [e]
    · exact Nat.le_add_right _ 4
    · exact Nat.le_add_right _ 2
    · exact Nat.le_add_right _ 3
    · exact Nat.le_refl _
    · exact Nat.le_add_right _ 1
  exact I1.fpOk hle (I1.hok.fresh hle)
/-! ### kinds -/
section
variable {K : PySem.W.Frag} {G : Gm} {Mu Mu1 Mu2 Mu3 : Mm} {te ta tb tc : TE} {a b : List Nat} {c : Nat}
theorem sX_at {l : List Nat} {i : Nat} : (sX l).cps[i]? = l[i]? := by simp [sX]
theorem sX_size {l : List Nat} : (sX l).cps.size = l.length := by simp [sX]
theorem ei_str (h : EvV K te G Mu Mu1 (vX a)) : EvI K (iStr te) G Mu Mu1 ((a.map fun c => [c]).map (tv rTxt)) AnyM True := fun B σ S ls H R sl hs q =>
  h B σ S ls H _ sl hs fun v S1 l1 H1 a1 b1 c1 d1 => by
    have d1 : v = .str (sX a) := d1
    refine ⟨sX a, d1, q _ S1 l1 H1 a1 b1 c1 (fun B i S2 l2 M2 H2 sa pr _ hs2 => ⟨fun t et => ?_, fun hi => ?_⟩) trivial⟩
    · rw [List.getElem?_map, List.getElem?_map] at et
      cases ex : a[i]? with
      | none =>
        rw [ex] at et
        cases et
      | some y =>
        rw [ex] at et
        obtain rfl : t = tv rTxt [y] := (Option.some.inj et).symm
        refine ⟨?_, fun z H3 yy => ?_⟩
        · show i < (sX a).cps.size
          rw [sX_size]
          exact (List.getElem?_eq_some_iff.mp ex).1
        · obtain ⟨eh, c', e1, ez⟩ := yy
          subst eh ez
          rw [sX_at, ex] at e1
          cases e1
          exact ⟨S2, Same.refl _, hs2, rfl, Same.refl _, fun a o ea => .inl ea⟩
    · show (sX a).cps.size ≤ i
      rw [sX_size]
      simpa using hi
theorem ei_zipX {r : Unit} (h1 : EvV K ta G Mu Mu1 (vX a)) (h2 : EvV K tb G Mu1 Mu2 (vX b)) (e : zipP a b = .ok r) : EvI K (iZipX (tCons ta (tCons tb tNil))) G Mu Mu2 ((zipX a b).map (tv (rP2 rTxt rTxt))) AnyM True := fun B σ S ls H R sl hs q =>
  h1 B σ S ls H _ sl hs fun v1 S1 l1 H1 a1 b1 c1 d1 => h2 B σ S1 l1 H1 _ (sl.mono a1 b1) c1 fun v2 S2 l2 H2 a2 b2 c2 d2 => by
    have d1 : v1 = .str (sX a) := d1
    have d2 : v2 = .str (sX b) := d2
    have le := zipP_of e
    subst d1 d2
    refine ⟨sX a, sX b, rfl, q _ S2 l2 H2 (a1.trans a2) (b1.trans b2) c2 (fun B i S3 l3 M3 H3 sa pr _ hs3 => ⟨fun t et => ?_, fun hi => ?_⟩) trivial⟩
    · rw [List.getElem?_map] at et
      unfold zipX at et
      by_cases hi : i < a.length
      · have ea : a[i]? = some a[i] := List.getElem?_eq_getElem hi
        have eb : b[i]? = some (b[i]'(by omega)) := List.getElem?_eq_getElem (by omega)
        have ez : (a.zip b)[i]? = some (a[i], b[i]'(by omega)) := List.getElem?_zip_eq_some.mpr ⟨ea, eb⟩
        rw [List.getElem?_map, ez] at et
        obtain rfl : t = tv (rP2 rTxt rTxt) ([a[i]], [b[i]'(by omega)]) := (Option.some.inj et).symm
        refine ⟨⟨by rw [sX_size]; exact hi, by rw [sX_size]; omega⟩, fun z H4 yy => ?_⟩
        obtain ⟨T, c', d', ez', en, eh, f1, f2⟩ := yy
        rw [sX_at, ea] at f1
        rw [sX_at, eb] at f2
        cases f1
        cases f2
        subst ez' eh
        obtain ⟨s2, h2'⟩ := hs3.laid (o := .tup [.str ⟨#[a[i]]⟩, .str ⟨#[b[i]'(by omega)]⟩]) en
        refine ⟨_, s2, h2', ⟨T, _, rfl, upd_same, by show 2 ≤ sizeLine; decide, .cons rfl (.cons rfl .nil)⟩, same_new en, fun a' o ea' => ?_⟩
        by_cases ha : a' = T
        · subst ha
          exact .inr en
        · rw [upd_ne ha] at ea'
          exact .inl ea'
      · rw [List.getElem?_map, List.getElem?_eq_none (by rw [List.length_zip]; omega)] at et
        cases et
    · show (sX a).cps.size ≤ i
      rw [sX_size]
      unfold zipX at hi
      rw [List.length_map, List.length_map, List.length_zip] at hi
      omega
/-! signs sought -/
theorem firstF_none {lo : Nat} (h : ∀ i, lo ≤ i → a[i]? ≠ some c) : firstF a c lo = -1 := by
  unfold firstF
  have : (List.range' lo (a.length - lo)).find? (fun k => a[k]? == some c) = none := by
    rw [List.find?_eq_none]
    intro x hx
    have := List.mem_range'_1.mp hx
    simpa using h x this.1
  rw [this]
theorem firstF_some {lo i : Nat} (h0 : lo ≤ i) (h : a[i]? = some c) (hk : ∀ k, lo ≤ k → k < i → a[k]? ≠ some c) : firstF a c lo = (i : Int) := by
  unfold firstF
  have hl := (List.getElem?_eq_some_iff.mp h).1
  have : (List.range' lo (a.length - lo)).find? (fun k => a[k]? == some c) = some i := by
    rw [List.find?_range'_eq_some]
    refine ⟨by simpa using h, List.mem_range'_1.mpr ⟨h0, by omega⟩, fun j j1 j2 => ?_⟩
    simpa using hk j j1 j2
  rw [this]
theorem find3_sX {i : Int} : Txt.find3 (sX a) (sX [c]) i = findX3 a c i := by
  unfold Txt.find3 findX3
  have e0 : fromIndex (sX a).length i = (if i < 0 then i + (a.length : Int) else i).toNat := by
    unfold fromIndex
    rw [sX_len]
    split <;> omega
  rw [e0]
  generalize (if i < 0 then i + (a.length : Int) else i).toNat = lo
  rcases PySem.StrLaws.occ_head_from (sX a) (sX [c]) lo 1 (Nat.le_refl _) with ⟨h1, h2⟩ | ⟨j, r, h1, h0, h2, h3⟩
  · rw [h1]
    exact (firstF_none fun k hk e => h2 k hk (atX_iff.mpr e)).symm
  · rw [h1]
    exact (firstF_some h0 (atX_iff.mp h2) fun k k1 k2 e => h3 k k1 k2 (atX_iff.mpr e)).symm
theorem lastF_none {hi : Nat} (h : ∀ i, i < hi → a[i]? ≠ some c) : lastF a c hi = -1 := by
  unfold lastF
  have : (List.range hi).find? (fun r => a[hi - 1 - r]? == some c) = none := by
    rw [List.find?_eq_none]
    intro x hx
    have := List.mem_range.mp hx
    simpa using h (hi - 1 - x) (by omega)
  rw [this]
theorem lastF_some {hi i : Nat} (h0 : i < hi) (h : a[i]? = some c) (hk : ∀ k, i < k → k < hi → a[k]? ≠ some c) : lastF a c hi = (i : Int) := by
  unfold lastF
  have : (List.range hi).find? (fun r => a[hi - 1 - r]? == some c) = some (hi - 1 - i) := by
    rw [List.find?_range_eq_some]
    refine ⟨?_, List.mem_range.mpr (by omega), fun j j2 => ?_⟩
    · have : hi - 1 - (hi - 1 - i) = i := by omega
      rw [this]
      simpa using h
    · simpa using hk (hi - 1 - j) (by omega) (by omega)
  rw [this]
  show ((hi - 1 - (hi - 1 - i) : Nat) : Int) = _
  omega
theorem atX_hi {hi i : Nat} (hl : hi ≤ a.length) : PySem.StrLaws.At (sX a) (sX [c]) hi i ↔ i < hi ∧ a[i]? = some c := by
  have := atX_iff (a := a) (c := c) (i := i)
  unfold PySem.StrLaws.At at this ⊢
  rw [sX_len, sX_len] at this
  rw [sX_len]
  constructor
  · rintro ⟨h1, h2⟩
    have h1 : i + 1 ≤ hi := h1
    exact ⟨h1, this.mp ⟨by show i + 1 ≤ a.length; omega, h2⟩⟩
  · rintro ⟨h1, h2⟩
    exact ⟨h1, (this.mpr h2).2⟩
theorem rfind_sX {j : Int} : Txt.rfindIn (sX a) (sX [c]) 0 j = rfindX a c j := by
  unfold Txt.rfindIn rfindX
  have e0 : fromIndex (sX a).length 0 = 0 := by
    unfold fromIndex
    rfl
  have e1 : toIndexW (sX a).length j = min (if j < 0 then j + (a.length : Int) else j).toNat a.length := by
    unfold toIndexW
    rw [sX_len]
    split <;> omega
  rw [e0, e1]
  have hl : min (if j < 0 then j + (a.length : Int) else j).toNat a.length ≤ a.length := Nat.min_le_right _ _
  generalize min (if j < 0 then j + (a.length : Int) else j).toNat a.length = hi at hl
  have L := PySem.StrLaws.last_run (sX a) (sX [c]) hi (List.range' 0 (hi + 1 - 0)) [] none (fun i hi => by cases hi) (fun i hi => by cases hi) (List.pairwise_lt_range')
  rw [← PySem.StrLaws.last_eq, List.nil_append] at L
  cases e : Builtin.Str.lastOccurrence (sX a) (sX [c]) 0 hi with
  | none =>
    rw [e] at L
    exact (lastF_none fun i h1 h2 => L i (List.mem_range'_1.mpr ⟨Nat.zero_le _, by omega⟩) ((atX_hi hl).mpr ⟨h1, h2⟩)).symm
  | some i =>
    rw [e] at L
    obtain ⟨L1, L2⟩ := L
    have L1 := (atX_hi hl).mp L1
    exact (lastF_some L1.1 L1.2 fun k k1 k2 h => L2 k (List.mem_range'_1.mpr ⟨Nat.zero_le _, by omega⟩) k1 ((atX_hi hl).mpr ⟨k2, h⟩)).symm
theorem int_sX {l : List Nat} {n : Int} (h : intX l = .ok n) : intText? (sX l) = some n ∧ (sX l).length ≤ 640 := by
  unfold intX at h
  split at h
  · rename_i c
    split at h
    · rename_i hc
      cases h
      have : c = 48 ∨ c = 49 ∨ c = 50 ∨ c = 51 ∨ c = 52 ∨ c = 53 ∨ c = 54 ∨ c = 55 ∨ c = 56 ∨ c = 57 := by omega
      rcases this with e | e | e | e | e | e | e | e | e | e <;> subst e <;> exact ⟨by decide +kernel, by rw [sX_len]; decide⟩
    · cases h
  · cases h
theorem rc_intX {n : Int} (h : intX a = .ok n) : Rc K (fun xs H Q => ∃ a n, xs = [.str a] ∧ PySem.intText? a = some n ∧ a.length ≤ 640 ∧ Q (.int n) H) Mu Mu [vX a] (vI n) := rc_same fun B S ls H vs Q hs ha q => by
  cases ha with
  | cons h1 h2 =>
    cases h2
    have h1 : _ = V.str (sX a) := h1
    subst h1
    exact ⟨sX a, n, rfl, (int_sX h).1, (int_sX h).2, q _ rfl⟩
theorem tyV_str {K : PySem.W.Frag} {z : Str} {H : Hp} : tyV K "str" (.str z) H := rfl
theorem ev_find3X {ti : TE} {i : Int} {to : TE} (ho : EvV K to G Mu Mu1 (vX a)) (he : EvV K te G Mu1 Mu2 (vX [c])) (hi : EvV K ti G Mu2 Mu3 (vI i)) : EvV K (tBM K "str" (fun x xs H Q => ∃ (a b : Str) (i : Int), x = .str a ∧ xs = [.str b, .int i] ∧ Q (.int (Txt.find3 a b i)) H) to (tCons te (tCons ti tNil))) G Mu Mu3 (vI (findX3 a c i)) := fun B σ S ls H Q sl hs q =>
  ho B σ S ls H _ sl hs fun x S1 l1 H1 a1 b1 c1 d1 => by
    have d1 : x = V.str (sX a) := d1
    subst d1
    refine ⟨tyV_str, he B σ S1 l1 H1 _ (sl.mono a1 b1) c1 fun x2 S2 l2 H2 a2 b2 c2 d2 => hi B σ S2 l2 H2 _ (sl.mono (a1.trans a2) (b1.trans b2)) c2 fun x3 S3 l3 H3 a3 b3 c3 d3 => ?_⟩
    have d2 : x2 = V.str (sX [c]) := d2
    have d3 : x3 = V.int i := d3
    subst d2 d3
    refine ⟨sX a, sX [c], i, rfl, rfl, ?_⟩
    rw [find3_sX]
    exact q _ S3 l3 H3 (a1.trans (a2.trans a3)) (b1.trans (b2.trans b3)) c3 rfl
theorem ev_rfind4X {ti tj : TE} {j : Int} {to : TE} {Mu4 : Mm} (ho : EvV K to G Mu Mu1 (vX a)) (he : EvV K te G Mu1 Mu2 (vX [c])) (hi : EvV K ti G Mu2 Mu3 (vI 0)) (hj : EvV K tj G Mu3 Mu4 (vI j)) : EvV K (tBM K "str" (fun x xs H Q => ∃ (a b : Str) (i j : Int), x = .str a ∧ xs = [.str b, .int i, .int j] ∧ Q (.int (Txt.rfindIn a b i j)) H) to (tCons te (tCons ti (tCons tj tNil)))) G Mu Mu4 (vI (rfindX a c j)) := fun B σ S ls H Q sl hs q =>
  ho B σ S ls H _ sl hs fun x S1 l1 H1 a1 b1 c1 d1 => by
    have d1 : x = V.str (sX a) := d1
    subst d1
    refine ⟨tyV_str, he B σ S1 l1 H1 _ (sl.mono a1 b1) c1 fun x2 S2 l2 H2 a2 b2 c2 d2 => hi B σ S2 l2 H2 _ (sl.mono (a1.trans a2) (b1.trans b2)) c2 fun x3 S3 l3 H3 a3 b3 c3 d3 => hj B σ S3 l3 H3 _ (sl.mono (a1.trans (a2.trans a3)) (b1.trans (b2.trans b3))) c3 fun x4 S4 l4 H4 a4 b4 c4 d4 => ?_⟩
    have d2 : x2 = V.str (sX [c]) := d2
    have d3 : x3 = V.int 0 := d3
    have d4 : x4 = V.int j := d4
    subst d2 d3 d4
    refine ⟨sX a, sX [c], 0, j, rfl, rfl, ?_⟩
    rw [rfind_sX]
    exact q _ S4 l4 H4 (a1.trans (a2.trans (a3.trans a4))) (b1.trans (b2.trans (b3.trans b4))) c4 rfl
end
/-- a tuple of targets, the fragment named -/
theorem pg_tupK {X : Cx} {K : PySem.W.Frag} {pos : Pos} {es : List Expr} {k : Nat} {t : TGs} {n : Nat} (hc : X.calm = true) (h : PGs X es t) (hK : X.K = K := by rfl) (h1 : (assignEach es X.env).length = n := by rfl) (h2 : (assignEach es X.env).findIdx? (fun x => x.1) = none := by rfl) : PG X (.Tuple es k pos) (gTup K n t) := by
  subst hK
  exact pg_tup hc h h1 h2
/-- two names of a comprehension -/
theorem wipe_set2 {σ : L2.St} {i j : Nat} {a b : Option V} : wipe (((wipe σ [i, j]).set i a).set j b) [i, j] = wipe σ [i, j] := by
  show List.set (List.set (List.set (List.set (List.set (List.set σ j none) i none) i a) j b) j none) i none = List.set (List.set σ j none) i none
  refine List.ext_getElem? fun k => ?_
  simp only [List.getElem?_set, List.length_set]
  by_cases hj : j = k <;> by_cases hi : i = k <;> simp [hi, hj]
theorem ego_tup2 {K : PySem.W.Frag} {G : Gm} {α β : Type} {A : Rep α} {B' : Rep β} {i j : Nat} {x : α × β} : EvGo K (gTup K 2 (gCons (gName i) (gCons (gName j) gNil))) [i, j] (.val (tv (rP2 A B') x)) G ((G.set i (some (.val (tv A x.1)))).set j (some (.val (tv B' x.2)))) := fun B v σ S ls Mu H Q r sl hs q => by
  obtain ⟨p, vs, e, sq, l, rr⟩ := r
  have sq : SqT K S p vs := SqT.of sq
  cases rr with
  | cons r0 rr => cases rr with
    | cons r1 rr =>
      cases rr
      exact ⟨p, _, e, same_seqT hs.ex sq, rfl, _, _, rfl, _, _, rfl, rfl, q _ wipe_set2 (Sl.set (s := .val (tv B' x.2)) (Sl.set (s := .val (tv A x.1)) sl r0) r1)⟩
end TL

/-! TL2: keyword calls, defaults, star calls of static methods, divmod, bool of an instance. -/
namespace TL
open PySem PySem.Spec PyProof.Rows L2
section
variable {X : Cx} {CT : CXT} {k n : Nat} {f C : Addr} {fd : FuncData} {ps ks : List Str} {sp : Sp} {E : L2.St → XK} {x m : Str} {p pos apos : Pos} {e o : Expr} {es : List Expr} {kws : List Keyword} {ta : TE} {t tk : TA} {g : List Value → List Value → List Value} {gV : List V → List V → List V}
/-- what a run leaves, at the caller -/
theorem land_S {pins : List (Addr × Obj)} {σ : L2.St} {H : Hp} {s : Shared} {Q : VK} {us : List Value} {kw : List (Str × Value)} (hx : PassesAt CT X σ (E σ)) (I : Inv X pins σ H s)
    (run : codeAny (model X.prog X.w) X.A (.call (.ref f) ⟨us, kw⟩) (CR CT X.stack X.prog X.w H s Q (E σ)) s) : wpAny (model X.prog X.w) X.A (call (.ref f) us kw) (EP X pins σ Q) X.xe s := by
  refine wpAny_call (codeAny_mono run fun r s' hq => ?_)
  cases r with
  | error er => exact hx pins H s er s' I hq
  | ok fl =>
    cases fl with
    | ret u =>
      obtain ⟨z, H', I', rz, q'⟩ := I.after hq
      exact ⟨z, H', I', rz, q'⟩
    | next => exact False.elim hq
    | brk => exact False.elim hq
    | cont => exact False.elim hq
theorem run_fnNS {pins : List (Addr × Obj)} {σ : L2.St} {H : Hp} {s : Shared} {Q : VK} {us ws : List Value} {vs zs : List V} (F : FnOk X.prog X.w X.K X.mg X.base CT k f fd ps sp) (hr : Room k X.A) (hb : KBn X.K fd ps n ks g gV) (hx : PassesAt CT X σ (E σ)) (I : Inv X pins σ H s) (r : Vals vs us) (rz : Vals zs ws) (l1 : vs.length = n) (l2 : zs.length = ks.length) (q : sp (gV vs zs) H Q (E σ)) :
    wpAny (model X.prog X.w) X.A (call (.ref f) us (ks.zip ws)) (EP X pins σ Q) X.xe s :=
  land_S hx I (F.run X.A X.stack s H ⟨us, ks.zip ws⟩ (g us ws) (gV vs zs) Q (E σ) hr I.env0 (hb.to s us ws I.kIn (by rw [← l1]; exact (Paired.length r).symm) (by rw [← l2]; exact (Paired.length rz).symm)) (hb.rel r rz) q)
/-- arguments by place, then by name, as the def takes them -/
def tKw (n m : Nat) (gV : List V → List V → List V) (t tk : TA) : TA := fun σ H Q => t σ H fun vs H1 => tk σ H1 fun zs H2 => vs.length = n ∧ zs.length = m ∧ Q (gV vs zs) H2
theorem pe_statK {pl : Sem Bool} {px : Pos} (S : Stat X.K C m f) (F : FnOk X.prog X.w X.K X.mg X.base CT k f fd ps sp) (hr : Room k X.A) (hg : Gl X x) (hm : X.mg x = some (.ref C)) (hb : KBn X.K fd ps n ks g gV) (hx : ∀ σ, PassesAt CT X σ (E σ)) (ha : PA X (e :: es) t) (hk : PK X kws tk)
    (hall : ((backToKw pos (keywordEach kws X.env)).all fun x => x.1.isSome) = true := by rfl) (hks : (backToKw pos (keywordEach kws X.env)).filterMap (fun x => x.1) = ks := by rfl) (hdb : (x == ("__debug__" : Str)) = false := by decide)
    (hst : starEach (e :: es) X.env = (false, eval e X.env) :: starEach es X.env := by rfl) (hpl : (((backTo pos (starEach (e :: es) X.env)).any fun x => x.1) || (backToKw pos (keywordEach kws X.env)).any fun x => x.1.isNone) = false := by rfl)
    (ht : eval (.Call (.Attribute (.Name x px) m apos) (e :: es) kws pos) X.env = (do
      let ov ← eval (.Name x px) X.env
      standAt apos.atName
      let (f, first) ← holding [ov] (getMethod ov m pl)
      callWith pos f first (backTo pos (starEach (e :: es) X.env)) (backToKw pos (keywordEach kws X.env))) := by rfl) :
    PE X (.Call (.Attribute (.Name x px) m apos) (e :: es) kws pos) (tCallS sp E (tKw n ks.length gV t tk)) := ⟨fun pins s σ H Q I h => by
  obtain ⟨q, rest, e1, e2⟩ := S.at_
  refine PySem.W.methodCall_KW (pl := pl) (ld_glob I hg hm ?_ hdb) ht
  refine PySem.W.method_cls I.kIn S.ga (PySem.W.cls_bind I.kIn S.rd e1 (wpAny_call (PySem.W.sm_get (s := { s with toks := s.toks + 1 }) I.kIn e2 (PySem.W.handed_on rfl ?_))))
  refine PySem.W.callWith_KW (h₀ := X.base) I.ok.mod.kin S.kp hall (thn (ha.run pos pins _ σ H _ (I.tok _) h) fun us s1 hus => ?_) hpl hst
  obtain ⟨vs, H1, I1, r, q1⟩ := hus
  refine thn (hk.run pos pins s1 σ H1 _ I1 q1) fun ws s2 hws => ?_
  obtain ⟨zs, H2, I2, rz, l1, l2, q2⟩ := hws
  refine ⟨I2.kIn, ?_⟩
  rw [hks]
  exact run_fnNS F hr hb (hx σ) I2 r rz l1 l2 q2⟩
theorem pe_statK0 {pl : Sem Bool} {px : Pos} (S : Stat X.K C m f) (F : FnOk X.prog X.w X.K X.mg X.base CT k f fd ps sp) (hr : Room k X.A) (hg : Gl X x) (hm : X.mg x = some (.ref C)) (hb : KBn X.K fd ps 0 ks g gV) (hx : ∀ σ, PassesAt CT X σ (E σ)) (hk : PK X kws tk)
    (hall : ((backToKw pos (keywordEach kws X.env)).all fun x => x.1.isSome) = true := by rfl) (hks : (backToKw pos (keywordEach kws X.env)).filterMap (fun x => x.1) = ks := by rfl) (hdb : (x == ("__debug__" : Str)) = false := by decide)
    (hpl : (((backTo pos (starEach [] X.env)).any fun x => x.1) || (backToKw pos (keywordEach kws X.env)).any fun x => x.1.isNone) = false := by rfl)
    (ht : eval (.Call (.Attribute (.Name x px) m apos) [] kws pos) X.env = (do
      let ov ← eval (.Name x px) X.env
      standAt apos.atName
      let (f, first) ← holding [ov] (getMethod ov m pl)
      callWith pos f first (backTo pos (starEach [] X.env)) (backToKw pos (keywordEach kws X.env))) := by rfl) :
    PE X (.Call (.Attribute (.Name x px) m apos) [] kws pos) (tCallS sp E (tKw 0 ks.length gV tNil tk)) := ⟨fun pins s σ H Q I h => by
  obtain ⟨q, rest, e1, e2⟩ := S.at_
  refine PySem.W.methodCall_KW (pl := pl) (ld_glob I hg hm ?_ hdb) ht
  refine PySem.W.method_cls I.kIn S.ga (PySem.W.cls_bind I.kIn S.rd e1 (wpAny_call (PySem.W.sm_get (s := { s with toks := s.toks + 1 }) I.kIn e2 (PySem.W.handed_on rfl ?_))))
  refine PySem.W.callWith_KW0 (h₀ := X.base) I.ok.mod.kin S.kp hall ?_ hpl
  refine thn (hk.run pos pins _ σ H _ (I.tok _) h) fun ws s2 hws => ?_
  obtain ⟨zs, H2, I2, rz, l1, l2, q2⟩ := hws
  refine ⟨I2.kIn, ?_⟩
  rw [hks]
  exact run_fnNS (us := []) (vs := []) F hr hb (hx σ) I2 .nil rz l1 l2 q2⟩
/-- o.m(a = ..) -/
theorem pe_methK0 {pl : Sem Bool} {gV' : List V → List V → List V} (he : PE X o ta) (c : Cls X.K C) (hm : Meth X.K C m f) (F : FnOk X.prog X.w X.K X.mg X.base CT k f fd ps sp) (hr : Room k X.A) (hb : KBn X.K fd ps 1 ks g gV) (hx : ∀ σ, PassesAt CT X σ (E σ)) (hk : PK X kws tk) (hgv : ∀ x zs, gV [x] zs = x :: gV' [] zs)
    (hall : ((backToKw pos (keywordEach kws X.env)).all fun x => x.1.isSome) = true := by rfl) (hks : (backToKw pos (keywordEach kws X.env)).filterMap (fun x => x.1) = ks := by rfl)
    (hpl : (((backTo pos (starEach [] X.env)).any fun x => x.1) || (backToKw pos (keywordEach kws X.env)).any fun x => x.1.isNone) = false := by rfl)
    (ht : eval (.Call (.Attribute o m apos) [] kws pos) X.env = (do
      let ov ← eval o X.env
      standAt apos.atName
      let (f, first) ← holding [ov] (getMethod ov m pl)
      callWith pos f first (backTo pos (starEach [] X.env)) (backToKw pos (keywordEach kws X.env))) := by rfl) :
    PE X (.Call (.Attribute o m apos) [] kws pos) (tMethS C m sp E ta (tKw 0 ks.length gV' tNil tk)) := ⟨fun pins s σ H Q I h => by
  refine PySem.W.methodCall_KW (pl := pl) (thn (he.run pins s σ H _ I h) fun u s1 hu => ?_) ht
  obtain ⟨y, H1, I1, ry, a, dx, fs, ey, ea, l, q⟩ := hu
  subst ey
  obtain rfl : u = Value.ref a := ry
  refine getmeth_ok I1 ea c hm l ?_
  refine PySem.W.callWith_KW0 (first := [.ref a]) (h₀ := X.base) I.ok.mod.kin hm.kp hall ?_ hpl
  refine thn (hk.run pos pins _ σ H1 _ I1 q) fun ws s2 hws => ?_
  obtain ⟨zs, H2, I2, rz, _, l2, q2⟩ := hws
  refine ⟨I2.kIn, ?_⟩
  rw [hks]
  exact run_fnNS (us := [.ref a]) (vs := [.ref a]) F hr hb (hx σ) I2 (.cons rfl .nil) rz rfl l2 (by rw [hgv]; exact q2)⟩
/-! ### C.m(..), m a static method with a star parameter -/
theorem run_fnRS {pins : List (Addr × Obj)} {σ : L2.St} {H : Hp} {s : Shared} {Q : VK} {us : List Value} {vs : List V} (F : FnR X.prog X.w X.K X.mg X.base CT k f sp) (hr : Room k X.A) (hx : PassesAt CT X σ (E σ)) (I : Inv X pins σ H s) (r : Vals vs us) (q : sp vs H Q (E σ)) :
    wpAny (model X.prog X.w) X.A (call (.ref f) us) (EP X pins σ Q) X.xe s := land_S hx I (F X.A X.stack s H us vs Q (E σ) hr I.env0 r q)
theorem pe_statR {pl : Sem Bool} {px : Pos} (S : Stat X.K C m f) (F : FnR X.prog X.w X.K X.mg X.base CT k f sp) (hr : Room k X.A) (hg : Gl X x) (hm : X.mg x = some (.ref C)) (hx : ∀ σ, PassesAt CT X σ (E σ)) (ha : PA X (e :: es) t) (hdb : (x == ("__debug__" : Str)) = false := by decide)
    (hst : starEach (e :: es) X.env = (false, eval e X.env) :: starEach es X.env := by rfl) (hpl : (backTo pos (starEach es X.env)).any (·.1) = false := by rfl)
    (ht : eval (.Call (.Attribute (.Name x px) m apos) (e :: es) [] pos) X.env = (do
      let ov ← eval (.Name x px) X.env
      standAt apos.atName
      let (f, first) ← holding [ov] (getMethod ov m pl)
      callWith pos f first (backTo pos (starEach (e :: es) X.env)) (backToKw pos (keywordEach [] X.env))) := by rfl) :
    PE X (.Call (.Attribute (.Name x px) m apos) (e :: es) [] pos) (tCallS sp E t) := ⟨fun pins s σ H Q I h => by
  obtain ⟨q, rest, e1, e2⟩ := S.at_
  refine PySem.W.methodCall_KW (pl := pl) (ld_glob I hg hm ?_ hdb) ht
  refine PySem.W.method_cls I.kIn S.ga (PySem.W.cls_bind I.kIn S.rd e1 (wpAny_call (PySem.W.sm_get (s := { s with toks := s.toks + 1 }) I.kIn e2 (PySem.W.handed_on rfl ?_))))
  refine PySem.W.callWith_K (h₀ := X.base) I.ok.mod.kin S.kp (thn (ha.run pos pins _ σ H _ (I.tok _) h) fun us s1 hus => ?_) hst hpl
  obtain ⟨vs, H1, I1, r, q1⟩ := hus
  exact ⟨I1.kIn, run_fnRS F hr (hx σ) I1 r q1⟩⟩
theorem pe_statR0 {pl : Sem Bool} {px : Pos} (S : Stat X.K C m f) (F : FnR X.prog X.w X.K X.mg X.base CT k f sp) (hr : Room k X.A) (hg : Gl X x) (hm : X.mg x = some (.ref C)) (hx : ∀ σ, PassesAt CT X σ (E σ)) (hdb : (x == ("__debug__" : Str)) = false := by decide)
    (ht : eval (.Call (.Attribute (.Name x px) m apos) [] [] pos) X.env = (do
      let ov ← eval (.Name x px) X.env
      standAt apos.atName
      let (f, first) ← holding [ov] (getMethod ov m pl)
      callWith pos f first (backTo pos (starEach [] X.env)) (backToKw pos (keywordEach [] X.env))) := by rfl) :
    PE X (.Call (.Attribute (.Name x px) m apos) [] [] pos) (tCallS sp E tNil) := ⟨fun pins s σ H Q I h => by
  obtain ⟨q, rest, e1, e2⟩ := S.at_
  refine PySem.W.methodCall_KW (pl := pl) (ld_glob I hg hm ?_ hdb) ht
  refine PySem.W.method_cls I.kIn S.ga (PySem.W.cls_bind I.kIn S.rd e1 (wpAny_call (PySem.W.sm_get (s := { s with toks := s.toks + 1 }) I.kIn e2 (PySem.W.handed_on rfl ?_))))
  exact PySem.W.callWith_K0 I.kIn S.kp (run_fnRS (us := []) F hr (hx σ) (I.tok _) .nil h)⟩
/-! ### bool(x), x an instance with an own __bool__ -/
def rBoolO (C : Addr) (sp : Sp) : List V → Hp → VK → Prop := fun xs H Q => ∃ x, xs = [x] ∧ rTruO C sp x H fun b H' => Q (.bl b) H'
end
/-- a def without defaults, called by place and by name -/
theorem kbnN {K : PySem.W.Frag} {x qual : Str} {params : Arguments} {body : List Stmt} {scope : Scope} {kws : List (Str × V)} {f : Addr} {fd : FuncData} {ps : List Str} (F : FunD K x qual params body scope [] kws f fd) (n : Nat) (ks : List Str)
    (h : ∀ (kV doc pm : Value) (an : Option Addr) (cdv ct : Value) (us ws : List Value), us.length = n → ws.length = ks.length → bindArgs (PySem.W.fnOf x qual params body scope .none kV doc pm an cdv ct) ⟨us, ks.zip ws⟩ = pure (ps.zip (us ++ ws))) : KBn K fd ps n ks (fun us ws => us ++ ws) (fun vs zs => vs ++ zs) := by
  obtain ⟨oc, od, dV, kV, doc, pm, an, cdv, ct, osl, efd, lk, hcd, hdf, hkw⟩ := F.ex
  subst efd
  obtain rfl : dV = .none := hdf.elim (fun z => z.2) (fun z => absurd rfl z.1)
  refine ⟨fun s us ws _ l1 l2 M A E Q q => ?_, fun r rz => Paired.app r rz⟩
  rw [h _ _ _ _ _ _ us ws l1 l2]
  exact wpAny_pure q
/-! ### kinds -/
section
variable {ι ω α : Type} {K : PySem.W.Frag} {T : List XcD} {W : Xw} {G : Gm} {Mu Mu0 Mu1 : Mm} {ta tk : TA} {F : FS ι ω} {x : ι} {w : ω} {Es : L2.St → XK} {ss ss1 ss2 : List SV} {R : Rep α} {xs : List α} {n m : Nat} {ks : List Nat} {gV : List V → List V → List V} {mv : MV} {Mp : Mm} {y : Xc} {g0 : Option Gm} {ss0 : List SV}
theorem ea_kw (h1 : EvA K ta G Mu Mu0 ss1) (h2 : EvA K tk G Mu0 Mu1 ss2) (hg : ∀ S ls vs zs, AllS K S ls vs ss1 → AllS K S ls zs ss2 → AllS K S ls (gV vs zs) ss) (n1 : ss1.length = n := by rfl) (n2 : ss2.length = m := by rfl) : EvA K (tKw n m gV ta tk) G Mu Mu1 ss := fun B σ S ls H Q sl hs q =>
  h1 B σ S ls H _ sl hs fun vs S1 l1 H1 a1 b1 c1 d1 => h2 B σ S1 l1 H1 _ (sl.mono a1 b1) c1 fun zs S2 l2 H2 a2 b2 c2 d2 => by
    refine ⟨by rw [Paired.length d1]; exact n1, by rw [Paired.length d2]; exact n2, ?_⟩
    exact q _ S2 l2 H2 (a1.trans a2) (b1.trans b2) c2 (hg S2 l2 vs zs (AllS.mono a2 b2 d1) d2)
theorem ef_callStarS (ha : EvA K ta G Mu Mu1 ss) (es : ss = ss0 ++ (xs.map (tv R)).map .val) (hz : xs.length ≤ sizeLine) (hm : F.m x = .ok w) (hk : okKs ks Mu1.length = true := by rfl) (hc : okC ks ss0 = true := by rfl) (hi : F.ins x = ss0.map (renC ks) ++ [.val (tv (rSq .t R) xs)] := by rfl) (hC : selN none Mu1 ks = F.cells x := by rfl) (hn : ss0.length = n := by rfl) (ho : F.out x w = .rf mv Mp := by rfl) (hp : Mp.length = ks.length := by rfl) :
    EvF K (tCallS (starSp n (spT K T F)) Es ta) G Mu (putAll Mu1 ks Mp) mv := fun B σ S ls H Q sl hs q =>
  ha B σ S ls H _ sl hs fun vs S1 l1 H1 a1 b1 c1 d1 => by
    subst es
    refine star_call (S0 := S1) c1 d1 hk hc hi hC hn hz hm (fun S2 H2 C s2 h2 back => ?_) rfl
    rw [ho]
    exact acc_rf (ps := []) h2 hp (fun S2 l2 M2 Mx H2 g hl => by unfold pinL; exact back S2 l2 M2 Mx H2 g hl) (by unfold pinL; exact q.mono (a1.trans s2) b1)
theorem ex_callStarS (ha : EvA K ta G Mu Mu1 ss) (es : ss = ss0 ++ (xs.map (tv R)).map .val) (hz : xs.length ≤ sizeLine) (hm : F.m x = .ok w) (hk : okKs ks Mu1.length = true := by rfl) (hc : okC ks ss0 = true := by rfl) (hi : F.ins x = ss0.map (renC ks) ++ [.val (tv (rSq .t R) xs)] := by rfl) (hC : selN none Mu1 ks = F.cells x := by rfl) (hn : ss0.length = n := by rfl) (ho : F.out x w = .ex y g0 Mp := by rfl) (hp : Mp.length = ks.length := by rfl) :
    EvX K W (tCallS (starSp n (spT K W.T F)) (fun σ cls d H' => W.W cls d σ H') ta) G Mu (putAll Mu1 ks Mp) y := fun B σ S ls H Q sl hs q =>
  ha B σ S ls H _ sl hs fun vs S1 l1 H1 a1 b1 c1 d1 => by
    subst es
    refine star_call (S0 := S1) c1 d1 hk hc hi hC hn hz hm (fun S2 H2 C s2 h2 back => ?_) rfl
    rw [ho]
    exact acc_ex (ps := []) h2 hp (fun S2 l2 M2 Mx H2 g hl => by unfold pinL; exact back S2 l2 M2 Mx H2 g hl) (by unfold pinL; exact q.mono (a1.trans s2) b1)
end
end TL

/-! TL3: max with default, divmod, bool of an instance, the last place of a sign. -/
namespace TL
open PySem PySem.Spec PyProof.Rows L2
/-! ### max(xs, default=d) of ints -/
theorem reads_ints {h : Heap} : ∀ {ns : List Int} {its : List Value}, Vals (ns.map V.int) its → ReadsAll h its (ns.map PyData.int) []
  | [], _, .nil => .nil
  | _ :: _, _, .cons ⟨_, e⟩ r => by
    subst e
    exact .cons (as := []) (bs := []) (.int _ _) (reads_ints r)
theorem depth_ints : ∀ ns : List Int, PyData.depthAll (ns.map PyData.int) = 0
  | [] => rfl
  | _ :: ns => by
    rw [List.map_cons, PyData.depthAll, depth_ints ns]
    rfl
theorem alikeAll_ints (ns : List Int) : PySem.W.AlikeAll (ns.map PyData.int) := by
  constructor
  · intro x hx y hy
    obtain ⟨a, _, rfl⟩ := List.mem_map.mp hx
    obtain ⟨b, _, rfl⟩ := List.mem_map.mp hy
    rfl
  · intro x hx
    obtain ⟨a, _, rfl⟩ := List.mem_map.mp hx
    exact fun z => nomatch z
def rMaxDf (K : PySem.W.Frag) : List V → List V → Hp → VK → Prop := fun vs zs H Q => ∃ (a : Addr) (ns : List Int) (d : Int), vs = [V.ref a] ∧ zs = [.int d] ∧ (SqL K H a (ns.map V.int) ∨ SqT K H a (ns.map V.int)) ∧ Q (.int (maxD0 d ns)) H
theorem foldMaxI (n : Int) (ns : List Int) : ns.foldl max n = ns.foldl (fun a b => if b > a then b else a) n := by
  induction ns generalizing n with
  | nil => rfl
  | cons m ns ih =>
    rw [List.foldl_cons, List.foldl_cons, ih]
    congr 1
    show max n m = if m > n then m else n
    split <;> omega
theorem cr_maxDf {X : Cx} (hc : X.calm = true) (hu : X.A.units + 1 < cLine) : CallRK X (.builtin "max") [Str.ofString "default"] (rMaxDf X.K) := by
  intro pins s σ H vs zs us ws Q I r rz h
  obtain ⟨a, ns, d, rfl, rfl, hs, q⟩ := h
  obtain rfl := Vals.ref1 r
  obtain ⟨w1, rfl, t, e1⟩ := vals1 rz
  subst e1
  have hd : X.A.units + 1 + PyData.depthAll (ns.map PyData.int) < cLine := by
    rw [depth_ints]
    exact hu
  have fin0 : ns.map PyData.int = [] → ∀ h' tk, (∀ b o, s.heap.get? b = some o → h'.get? b = some o) → EP X pins σ Q (.int d t) { s with heap := h', toks := tk } := fun e h' tk hk => by
    have e : ns = [] := List.map_eq_nil_iff.mp e
    subst e
    exact ⟨.int d, H, I.kept hk, ⟨_, rfl⟩, q⟩
  have fin1 : ∀ (y : PyData) (ys : List PyData) (v : Value) (h' : Heap) (tk : Nat) (bs : List Addr), ns.map PyData.int = y :: ys → Reads h' v (PySem.W.maxD y ys) bs → (∀ b o, s.heap.get? b = some o → h'.get? b = some o) → EP X pins σ Q v { s with heap := h', toks := tk } := fun y ys v h' tk bs e rd hk => by
    cases ns with
    | nil => cases e
    | cons n ns =>
      cases e
      rw [PySem.W.maxD_ints, foldMaxI] at rd
      cases rd with
      | int _ t => exact ⟨.int _, H, I.kept hk, ⟨_, rfl⟩, q⟩
  rcases hs with hs | hs
  · obtain ⟨its, rv, hl, _⟩ := I.list hs
    exact PySem.W.max_list_default (I.ok.hd hc) hl.isList (reads_ints rv) (alikeAll_ints ns) hd fin0 fun y ys i v h' tk bs e _ rd hk => fin1 y ys v h' tk bs e rd hk
  · obtain ⟨its, rv, hl, _⟩ := I.tuple hs
    exact PySem.W.max_tuple_default (I.ok.hd hc) hl (reads_ints rv) (alikeAll_ints ns) hd fin0 fun y ys i v h' tk bs e _ rd hk => fin1 y ys v h' tk bs e rd hk
theorem kMaxDf {X : Cx} {K : PySem.W.Frag} (hc : X.calm = true) (hu : X.A.units + 1 < cLine) (h : X.K = K := by rfl) : CallRK X (.builtin "max") [Str.ofString "default"] (rMaxDf K) := h ▸ cr_maxDf hc hu
/-! ### bool(x), x an instance with an own __bool__ -/
section
variable {X : Cx} {CT : CXT} {k : Nat} {f C : Addr} {fd : FuncData} {ps : List Str} {sp : Sp}
theorem call_boolO (hm : Meth X.K C "__bool__" f) (F : FnOk X.prog X.w X.K X.mg X.base CT k f fd ps sp) (hr : Room (k + 2) X.A) (hb : Binds X.K fd ps []) (hx : Passes CT X (fun _ _ _ => False)) : CallR X (.type "bool") (rBoolO C sp) := by
  intro pins s σ H xs us Q I r h
  obtain ⟨x, e1, ⟨a, dx, fs, e2, ea⟩, q⟩ := h
  subst e1 e2
  obtain ⟨u, eu, rx⟩ := vals1 r
  subst eu
  obtain rfl : u = Value.ref a := rx
  obtain ⟨mA, J, _⟩ := ins_get I.hok ea
  obtain ⟨od, J, _⟩ := J.look
  obtain ⟨m', hF⟩ := I.fr
  have hr2 : Room k X.A.in1.in1 := hr.in1.in1
  have e0 : Env0 X.prog X.w X.K X.mg X.base X.A.in1.in1 X.stack s H := by
    have e := I.env0
    exact ⟨e.frames, e.mod, e.bs, e.bsz, e.funs, e.frf, e.hok, e.bare⟩
  have hl := F.len _ _ _ _ q
  have r2 : Vals [V.ref a] [Value.ref a] := .cons rfl .nil
  have bnd := hb s [.ref a] I.kIn (by simpa using hl)
  rw [List.append_nil] at bnd
  refine callType_newIn PySem.F.called_bool (by decide) (PySem.F.typeCall_bool_1 _) (PySem.F.newCall_bool_1 _) (fun ob => PySem.F.args_object_init_2 ob _) PySem.F.entry_bool_new
    (S := fun A R s => wpAny (model X.prog X.w) A.in1 (truthy (.ref a)) (fun b s' => R (.ok (.ret (.bool b))) s') (fun e s' => R (.error e) s') s)
    (.of_wp fun A R s h => ?_) ?_
  · obtain ⟨hp, g, d, tk, os⟩ := s
    have f1 := PySem.F.conv_sub_bool
    repeat (any_goals (first | assumption | exact wpAny_bind (wpAny_mono h (fun b s' hb => wpAny_pure ⟨_, rfl, hb⟩) fun _ _ z => z) | wp_step))
  · refine PySem.W.truthy_K hF I.ok.mod.kin J hm.at_ hm.fn (wpAny_call (codeAny_mono (F.run X.A.in1.in1 X.stack s H ⟨[.ref a], []⟩ [.ref a] [.ref a] _ (fun _ _ _ => False) hr2 e0 bnd r2 q) fun r s' hq => ?_))
    cases r with
    | error e => exact hx pins σ H s e s' I hq
    | ok fl =>
      cases fl with
      | ret w' =>
        obtain ⟨z, H', I', rz, b, ey, q'⟩ := I.after hq
        subst ey
        obtain rfl : w' = Value.bool b := rz
        exact ⟨by first | exact PySem.typeIs_bool _ _ | rfl, V.bl b, H', I', rfl, q'⟩
      | next => exact False.elim hq
      | brk => exact False.elim hq
      | cont => exact False.elim hq
end
/-! ### kinds -/
section
variable {ι ω : Type} {K : PySem.W.Frag} {W : Xw} {T : List XcD} {G : Gm} {Mu Mu1 Mu2 Mu3 : Mm} {ta td te to : TE} {s sa s2 : SV} {k : Knd} {ns : List Int} {d i j : Int} {a : List Nat} {c : Nat} {F : FS ι ω} {x : ι} {w : ω} {cn m : Str}
theorem ev_maxDf (h1 : EvV K ta G Mu Mu1 s) (h2 : EvV K td G Mu1 Mu2 (vI d)) (hq : IsSq K Mu2 s k (ns.map (tv rInt))) : EvV K (tCKw (rMaxDf K) (tCons ta tNil) (tCons td tNil)) G Mu Mu2 (vI (maxD0 d ns)) := fun B σ S ls H Q sl hs q =>
  h1 B σ S ls H _ sl hs fun x1 S1 l1 H1 a1 b1 c1 d1 => h2 B σ S1 l1 H1 _ (sl.mono a1 b1) c1 fun x2 S2 l2 H2 a2 b2 c2 d2 => by
    have d1 := SV.mono a2 b2 d1
    obtain ⟨p, vs, e, sq, l, r⟩ := hq B S2 l2 H2 x1 c2 d1
    subst e
    have d2 : x2 = V.int d := d2
    subst d2
    have ew := all_ints r
    subst ew
    exact ⟨p, ns, d, rfl, rfl, SqK.both sq, q _ S2 l2 H2 (a1.trans a2) (b1.trans b2) c2 rfl⟩
theorem rc_divP {r : Int × Int} (h : divP i j = .ok r) : Rc K (fun xs H Q => ∃ i j, xs = [.int i, .int j] ∧ CDivP i j ∧ ∀ p, H p = none → Q (.ref p) (upd H p (.tup [.int (i / j), .int (i % j)]))) Mu Mu [vI i, vI j] (.val (tv (rP2 rInt rInt) r)) := fun B S ls H vs Q hs ha q => by
  unfold divP at h
  split at h
  · rename_i hc
    cases h
    cases ha with
    | cons r0 r1 => cases r1 with
      | cons r1 r2 =>
        cases r2
        have e0 : _ = V.int i := r0
        have e1 : _ = V.int j := r1
        subst e0 e1
        refine ⟨i, j, rfl, ⟨hc.1, PyProof.noPylong_of_log2 hc.2⟩, fun p hp => new_tup (ts := [tv rInt (i / j), tv rInt (i % j)]) hs hp ?_ (.cons rfl (.cons rfl .nil)) q⟩
        rw [sizeLine_eq]
        show 2 ≤ _
        decide
  · cases h
theorem rfind_sXA : Txt.rfind (sX a) (sX [c]) = rfindA a c := by
  unfold Txt.rfind rfindA
  have at_ : ∀ i, PySem.StrLaws.At (sX a) (sX [c]) (sX a).length i ↔ i < a.length ∧ a[i]? = some c := fun i => by
    rw [sX_len]
    exact atX_hi (Nat.le_refl _)
  rcases PySem.StrLaws.last_spec (sX a) (sX [c]) with ⟨e, h⟩ | ⟨i, e, h1, h2⟩
  · rw [e]
    exact (lastF_none fun i hi h3 => h i ((at_ i).mpr ⟨hi, h3⟩)).symm
  · rw [e]
    obtain ⟨g1, g2⟩ := (at_ i).mp h1
    exact (lastF_some g1 g2 fun k k1 k2 h3 => h2 k k1 ((at_ k).mpr ⟨k2, h3⟩)).symm
theorem ev_rfindX (ho : EvV K to G Mu Mu1 (vX a)) (he : EvV K te G Mu1 Mu2 (vX [c])) : EvV K (tM1 (fun x xs H Q => ∃ a b, x = .str a ∧ xs = [.str b] ∧ Q (.int (Txt.rfind a b)) H) to te) G Mu Mu2 (vI (rfindA a c)) :=
  ev_m1X ho he fun B S ls H Q hs q => ⟨_, _, rfl, rfl, q _ (by show V.int _ = V.int _; rw [rfind_sXA])⟩
theorem rc_boolO {b : Bool} (hi0 : IsIns K Mu sa cn m) (hm : F.m x = .ok w) (hi : F.ins x = [sa].map (renC []) := by rfl) (hc : okC [] [sa] = true := by rfl) (hC : F.cells x = [] := by rfl) (ho : F.out x w = .rt (tv rBool b) [] := by rfl) {sp : Sp} (hsp : SpLe (spT K T F) sp := by exact fun _ _ _ _ h => h) : Rc K (rBoolO (He.ga K cn) sp) Mu Mu [sa] (vB b) := fun B S ls H vs Q hs ha q => by
  cases ha with
  | @cons u _ vs _ h1 h2 =>
    cases h2
    obtain ⟨p, dx, fs, e1, e2, _⟩ := hi0 B S ls H u hs h1
    refine ⟨u, rfl, ⟨p, dx, fs, e1, e2⟩, ?_⟩
    refine hsp _ _ _ _ ?_
    refine sp_call (ks := []) (ps := []) hs (.cons h1 .nil) rfl hc hi (by rw [hC]; rfl) (by unfold okP; rfl) hm fun C back => ?_
    rw [ho]
    exact acc_rt hs rfl back fun v' S' l' H' a' b' c' d' => ⟨b, d', q _ S' l' H' a' b' (by unfold pinL putAll at c'; exact c') rfl⟩
end
/-! ### a star def that may raise -/
theorem cxUpN {P : Program} {w : World} : StX.CXUp (L2N.CX P w) := fun outer s H s2 H2 E e s' un kp ho h => by
  obtain ⟨x, Bh, Hx, cls, d, hx, fl, hok, ub, hn, hos, hb, hE⟩ := h
  have fr : ∀ b o, s.heap.get? b = some o → H b = none → H2 b = none := fun b o q n => un.free b o q n (by simp)
  refine ⟨x, Bh, Hx, cls, d, hx, fl, hok, ?_, hn, hos.trans ho, hb, hE⟩
  exact {
    keep := fun b o q n m => ub.keep b o (kp b o q) (fr b o q n) m
    slot := fun b o q m => ub.slot b o (kp b o q) m
    free := fun b o q n => ub.free b o (kp b o q) (fr b o q n)
    there := fun b o q m => ub.there b o (kp b o q) m
    tups := fun b xs q => ub.tups b xs (un.tups b xs q)
    frzs := fun b o xs q => ub.frzs b o xs (un.frzs b o xs q)
    tbls := fun b ps q => by
      obtain ⟨m1, e1⟩ := un.tbls b ps q
      obtain ⟨m2, e2⟩ := ub.tbls b _ e1
      exact ⟨m1 ++ m2, by rw [e2]; exact (Array.append_assoc ..).symm ▸ rfl⟩ }
/-- oeP with the state behind as an equation -/
theorem oePm {α β : Type} {K : PySem.W.Frag} {G : Gm} {Mu Mu1 : Mm} {te : TE} {R : Rep α} {mu : β → Mm} {x y : α} {s s' : β} (e : (Except.ok (x, s) : Mr (α × β)) = .ok (y, s')) (h : EvV K te G Mu Mu1 (.val (tv R x))) (hm : Mu1 = mu s := by rfl) : EvV K te G Mu (mu s') (.val (tv R y)) := by
  subst hm
  exact oeP (mu := mu) e h
end TL

/-! plain: sequences that repeat behind a start, their normal forms. No import. -/
namespace Sq
section
variable {α : Type} {f g : Nat → α} {n m p q s : Nat}
def Per (f : Nat → α) (n p : Nat) : Prop := ∀ t, n ≤ t → f (t + p) = f t
theorem Per.mono (h : Per f n p) (hm : n ≤ m) : Per f m p := fun t ht => h t (by omega)
theorem Per.zero : Per f n 0 := fun _ _ => rfl
theorem Per.add (h : Per f n p) (g : Per f n q) : Per f n (p + q) := fun t ht => by
  rw [← Nat.add_assoc, g (t + p) (by omega), h t ht]
theorem Per.sub (h : Per f n p) (g : Per f n q) (hl : p ≤ q) : Per f n (q - p) := fun t ht => by
  rw [← h (t + (q - p)) (by omega)]
  have : t + (q - p) + p = t + q := by omega
  rw [this, g t ht]
theorem Per.mul (h : Per f n p) : ∀ k, Per f n (k * p)
  | 0 => by
    rw [Nat.zero_mul]
    exact Per.zero
  | k + 1 => by
    rw [Nat.succ_mul]
    exact (h.mul k).add h
theorem Per.mod (h : Per f n p) (g : Per f n q) : Per f n (q % p) := by
  have e : q % p = q - q / p * p := by
    have := Nat.div_add_mod q p
    rw [Nat.mul_comm] at this
    omega
  rw [e]
  exact (h.mul (q / p)).sub g (Nat.div_mul_le_self q p)
theorem Per.gcd (h : Per f n p) (g : Per f n q) : Per f n (Nat.gcd p q) := by
  induction p, q using Nat.gcd.induction with
  | H0 q =>
    rw [Nat.gcd_zero_left]
    exact g
  | H1 p q hp ih =>
    rw [Nat.gcd_rec]
    exact ih (h.mod g) h
theorem Per.down (h : Per f m q) (g : Per f n p) (hp : 1 ≤ p) : Per f n q := fun t ht => by
  have e1 := g.mul m t ht
  have e2 := g.mul m (t + q) (by omega)
  have e3 : m ≤ t + m * p := by
    have : m * 1 ≤ m * p := Nat.mul_le_mul_left m hp
    omega
  have e4 := h (t + m * p) e3
  rw [← e2, ← e1, ← e4]
  congr 1
  omega
/-- the least round, the least start -/
structure Can (f : Nat → α) (s p : Nat) : Prop where
  pos : 1 ≤ p
  per : Per f s p
  low : ∀ q, 1 ≤ q → Per f s q → p ≤ q
  first : ∀ n, Per f n p → s ≤ n
theorem Can.le {s' p' : Nat} (h : Can f s p) (g : Can f s' p') : p ≤ p' := by
  refine h.low p' g.pos ?_
  by_cases hs : s' ≤ s
  · exact g.per.mono hs
  · exact g.per.down h.per h.pos
theorem Can.uniq {s' p' : Nat} (h : Can f s p) (g : Can f s' p') : s = s' ∧ p = p' := by
  have e : p = p' := Nat.le_antisymm (h.le g) (g.le h)
  subst e
  exact ⟨Nat.le_antisymm (h.first _ g.per) (g.first _ h.per), rfl⟩
/-- from below: nothing shorter repeats, the sign ahead of the start is another one -/
theorem Can.of (hp : 1 ≤ p) (per : Per f s p) (low : ∀ q, 1 ≤ q → Per f s q → p ≤ q) (hs : s = 0 ∨ f (s - 1 + p) ≠ f (s - 1)) : Can f s p :=
  ⟨hp, per, low, fun n h => by
    rcases hs with rfl | hs
    · exact Nat.zero_le _
    · by_cases c : s ≤ n
      · exact c
      · exact absurd (h (s - 1) (by omega)) hs⟩
/-- a round divides every other one -/
theorem low_dvd (hp : 1 ≤ p) (per : Per f s p) (low : ∀ q, 1 ≤ q → Per f s q → p ≤ q) (g : Per f s q) (hq : 1 ≤ q) : p ∣ q := by
  have h := per.gcd g
  have : p ≤ Nat.gcd p q := low _ (Nat.gcd_pos_of_pos_left _ hp) h
  have e : Nat.gcd p q = p := Nat.le_antisymm (Nat.gcd_le_left _ hp) this
  rw [← e]
  exact Nat.gcd_dvd_right p q
end
/-! ### lead and cycle -/
section
variable {α : Type} {l c l' c' : List α}
def sq (l c : List α) (t : Nat) : Option α := if t < l.length then l[t]? else c[(t - l.length) % c.length]?
theorem sq_lt {t : Nat} (h : t < l.length) : sq l c t = l[t]? := if_pos h
theorem sq_ge {t : Nat} (h : l.length ≤ t) : sq l c t = c[(t - l.length) % c.length]? := if_neg (by omega)
theorem sq_per : Per (sq l c) l.length c.length := fun t ht => by
  rw [sq_ge ht, sq_ge (by omega)]
  have : t + c.length - l.length = t - l.length + c.length := by omega
  rw [this, Nat.add_mod_right]
theorem sq_some (hc : c ≠ []) (t : Nat) : ∃ x, sq l c t = some x := by
  have hc := List.length_pos_iff.mpr hc
  by_cases h : t < l.length
  · rw [sq_lt h]
    exact ⟨_, List.getElem?_eq_getElem h⟩
  · rw [sq_ge (by omega)]
    exact ⟨_, List.getElem?_eq_getElem (Nat.mod_lt _ hc)⟩
/-- lists that tell f in normal form -/
structure NF (f : Nat → Option α) (l c : List α) : Prop where
  can : Can f l.length c.length
  lead : ∀ i, i < l.length → l[i]? = f i
  cyc : ∀ i, i < c.length → c[i]? = f (l.length + i)
theorem NF.uniq {f : Nat → Option α} (h : NF f l c) (g : NF f l' c') : l = l' ∧ c = c' := by
  obtain ⟨e1, e2⟩ := h.can.uniq g.can
  refine ⟨List.ext_getElem? fun i => ?_, List.ext_getElem? fun i => ?_⟩
  · by_cases hi : i < l.length
    · rw [h.lead i hi, g.lead i (by omega)]
    · rw [List.getElem?_eq_none (by omega), List.getElem?_eq_none (by omega)]
  · by_cases hi : i < c.length
    · rw [h.cyc i hi, g.cyc i (by omega), e1]
    · rw [List.getElem?_eq_none (by omega), List.getElem?_eq_none (by omega)]
theorem per_mod {β : Type} {f : Nat → β} {s p : Nat} (h : Per f s p) (i : Nat) : f (s + i % p) = f (s + i) := by
  have := h.mul (i / p) (s + i % p) (by omega)
  rw [← this]
  congr 1
  have := Nat.div_add_mod i p
  rw [Nat.mul_comm] at this
  omega
theorem NF.eq {f : Nat → Option α} (h : NF f l c) (t : Nat) : sq l c t = f t := by
  by_cases ht : t < l.length
  · rw [sq_lt ht, h.lead t ht]
  · rw [sq_ge (by omega), h.cyc _ (Nat.mod_lt _ h.can.pos), per_mod h.can.per]
    congr 1
    omega
/-- a normal form is the normal form of what it tells -/
theorem NF.self {f : Nat → Option α} (h : NF f l c) : NF (sq l c) l c := by
  have e : sq l c = f := funext h.eq
  rw [e]
  exact h
/-- equal sequences: told by finitely many days -/
theorem eq_of_days {p q : Nat} {f g : Nat → α} {n : Nat} (hf : Per f n p) (hg : Per g n q) (hp : 1 ≤ p) (hq : 1 ≤ q) (h : ∀ t, t < n + Nat.lcm p q → f t = g t) : f = g := by
  have l0 : 0 < Nat.lcm p q := Nat.lcm_pos hp hq
  have pf : Per f n (Nat.lcm p q) := by
    obtain ⟨k, e⟩ := Nat.dvd_lcm_left p q
    rw [e, Nat.mul_comm]
    exact hf.mul k
  have pg : Per g n (Nat.lcm p q) := by
    obtain ⟨k, e⟩ := Nat.dvd_lcm_right p q
    rw [e, Nat.mul_comm]
    exact hg.mul k
  funext t
  by_cases ht : t < n
  · exact h t (by omega)
  · have e1 := per_mod pf (t - n)
    have e2 := per_mod pg (t - n)
    have e3 : n + (t - n) = t := by omega
    rw [e3] at e1 e2
    rw [← e1, ← e2]
    have := Nat.mod_lt (t - n) l0
    exact h _ (by omega)
end
/-! ### rounds by looking -/
section
variable {α : Type} {l c : List α}
theorem rot_get {x i : Nat} (hx : x ≤ c.length) (hi : i < c.length) : (c.drop x ++ c.take x)[i]? = c[(i + x) % c.length]? := by
  by_cases h : i < c.length - x
  · rw [List.getElem?_append_left (by rw [List.length_drop]; omega), List.getElem?_drop, Nat.mod_eq_of_lt (by omega), Nat.add_comm]
  · rw [List.getElem?_append_right (by rw [List.length_drop]; omega), List.length_drop, List.getElem?_take, if_pos (by omega), Nat.mod_eq_sub_mod (by omega), Nat.mod_eq_of_lt (by omega)]
    congr 1
    omega
theorem rot_per {x : Nat} (hx : x ≤ c.length) (hc : 0 < c.length) : c.drop x ++ c.take x = c ↔ Per (sq l c) l.length x := by
  constructor
  · intro e t ht
    rw [sq_ge ht, sq_ge (by omega)]
    have h := rot_get hx (Nat.mod_lt (t - l.length) hc)
    rw [e, Nat.mod_add_mod] at h
    rw [h]
    congr 2
    omega
  · intro h
    refine List.ext_getElem? fun i => ?_
    by_cases hi : i < c.length
    · rw [rot_get hx hi]
      have e := h (l.length + i) (by omega)
      rw [sq_ge (by omega), sq_ge (by omega)] at e
      have e1 : l.length + i + x - l.length = i + x := by omega
      have e2 : l.length + i - l.length = i := by omega
      rw [e1, e2, Nat.mod_eq_of_lt hi] at e
      exact e
    · rw [List.getElem?_eq_none (by rw [List.length_append, List.length_drop, List.length_take]; omega), List.getElem?_eq_none (by omega)]
theorem flat_get {xs : List α} (h0 : 0 < xs.length) : ∀ (k i : Nat), i < k * xs.length → (List.replicate k xs).flatten[i]? = xs[i % xs.length]?
  | 0, i, h => by omega
  | k + 1, i, h => by
    rw [List.replicate_succ, List.flatten_cons]
    by_cases hi : i < xs.length
    · rw [List.getElem?_append_left hi, Nat.mod_eq_of_lt hi]
    · rw [Nat.succ_mul] at h
      rw [List.getElem?_append_right (by omega), flat_get h0 k _ (by omega), ← Nat.mod_eq_sub_mod (by omega)]
theorem flat_len {xs : List α} {k : Nat} : (List.replicate k xs).flatten.length = k * xs.length := by
  simp [List.length_flatten]
theorem rep_per {d : Nat} (hd : d ∣ c.length) (hc : 0 < c.length) : (List.replicate (c.length / d) (c.take d)).flatten = c ↔ Per (sq l c) l.length d := by
  have hl : d ≤ c.length := Nat.le_of_dvd hc hd
  have h0 : 0 < d := Nat.pos_of_dvd_of_pos hd hc
  have tl : (c.take d).length = d := by rw [List.length_take]; omega
  have tot : c.length / d * d = c.length := Nat.div_mul_cancel hd
  have g : ∀ i, i < c.length → (List.replicate (c.length / d) (c.take d)).flatten[i]? = c[i % d]? := fun i hi => by
    rw [flat_get (by omega) _ _ (by rw [tl]; omega), tl, List.getElem?_take, if_pos (Nat.mod_lt _ h0)]
  constructor
  · intro e t ht
    rw [e] at g
    rw [sq_ge ht, sq_ge (by omega), g _ (Nat.mod_lt _ hc), g _ (Nat.mod_lt _ hc), Nat.mod_mod_of_dvd _ hd, Nat.mod_mod_of_dvd _ hd]
    have : t + d - l.length = t - l.length + d := by omega
    rw [this, Nat.add_mod_right]
  · intro h
    refine List.ext_getElem? fun i => ?_
    by_cases hi : i < c.length
    · rw [g i hi]
      have e := per_mod h i
      have := Nat.mod_lt i h0
      rw [sq_ge (by omega), sq_ge (by omega)] at e
      have e1 : l.length + i % d - l.length = i % d := by omega
      have e2 : l.length + i - l.length = i := by omega
      rw [e1, e2, Nat.mod_eq_of_lt hi, Nat.mod_eq_of_lt (by omega)] at e
      exact e
    · rw [List.getElem?_eq_none (by rw [flat_len, tl]; omega), List.getElem?_eq_none (by omega)]
/-- the least round behind n -/
structure Low {β : Type} (f : Nat → β) (n p : Nat) : Prop where
  pos : 1 ≤ p
  per : Per f n p
  low : ∀ q, 1 ≤ q → Per f n q → p ≤ q
theorem Low.le (hc : 0 < c.length) {p : Nat} (h : Low (sq l c) l.length p) : p ∣ c.length := low_dvd h.pos h.per h.low sq_per hc
theorem Low.can {β : Type} {f : Nat → β} {n p s : Nat} (h : Low f n p) (hs : s ≤ n) (per : Per f s p) (hf : s = 0 ∨ f (s - 1 + p) ≠ f (s - 1)) : Can f s p :=
  Can.of h.pos per (fun q q1 hq => h.low q q1 (hq.mono hs)) hf
/-- the lists of a normal form, cut out of the sequence -/
theorem NF.of {f : Nat → Option α} {s p : Nat} {a b : List α} (h : Can f s p) (la : a.length = s) (lb : b.length = p) (ha : ∀ i, i < s → a[i]? = f i) (hb : ∀ i, i < p → b[i]? = f (s + i)) : NF f a b := by
  subst la lb
  exact ⟨h, ha, hb⟩
theorem sq_map {β : Type} (g : α → β) (t : Nat) : sq (l.map g) (c.map g) t = (sq l c t).map g := by
  unfold sq
  rw [List.length_map, List.length_map, List.getElem?_map, List.getElem?_map]
  split <;> rfl
theorem NF.map {β : Type} {g : α → β} (hg : ∀ x y, g x = g y → x = y) {a b : List α} (h : NF (sq l c) a b) : NF (sq (l.map g) (c.map g)) (a.map g) (b.map g) := by
  have pe : ∀ n p, Per (sq (l.map g) (c.map g)) n p ↔ Per (sq l c) n p := fun n p => by
    constructor
    · intro k t ht
      have := k t ht
      rw [sq_map, sq_map] at this
      exact Option.map_injective (fun x y e => hg x y e) this
    · intro k t ht
      rw [sq_map, sq_map, k t ht]
  refine ⟨⟨?_, ?_, ?_, ?_⟩, fun i hi => ?_, fun i hi => ?_⟩
  · rw [List.length_map]
    exact h.can.pos
  · rw [List.length_map, List.length_map]
    exact (pe _ _).mpr h.can.per
  · intro q q1 hq
    rw [List.length_map] at hq ⊢
    exact h.can.low q q1 ((pe _ _).mp hq)
  · intro n hn
    rw [List.length_map] at hn ⊢
    exact h.can.first n ((pe _ _).mp hn)
  · rw [List.length_map] at hi
    rw [List.getElem?_map, h.lead i hi, sq_map]
  · rw [List.length_map] at hi
    rw [List.getElem?_map, h.cyc i hi, sq_map, List.length_map]
end
/-! ### a least round is there; days ahead of a start -/
theorem low_ex {β : Type} {f : Nat → β} {n : Nat} : ∀ m, 1 ≤ m → Per f n m → ∃ p, Low f n p := fun m => by
  induction m using Nat.strongRecOn with
  | ind m ih =>
    intro m1 hm
    by_cases h : ∃ q, 1 ≤ q ∧ q < m ∧ Per f n q
    · obtain ⟨q, q1, q2, q3⟩ := h
      exact ih q q2 q1 q3
    · refine ⟨m, m1, hm, fun q q1 q2 => ?_⟩
      by_cases hq : m ≤ q
      · exact hq
      · exact absurd ⟨q, q1, by omega, q2⟩ h
theorem back {β : Type} {f : Nat → β} {n p L m : Nat} (h : Per f n p) (hp : 1 ≤ p) (hL : n ≤ L) (hm : n ≤ m) : ∃ j : Nat, ((m : Int) - (L : Int)) % (p : Int) = (j : Int) ∧ j < p ∧ f (L + j) = f m := by
  have l1 : L * 1 ≤ L * p := Nat.mul_le_mul_left L hp
  refine ⟨(m + L * p - L) % p, ?_, Nat.mod_lt _ (by omega), ?_⟩
  · have : ((m + L * p - L : Nat) : Int) = (m : Int) - (L : Int) + (L : Int) * (p : Int) := by
      rw [← Int.natCast_mul]
      omega
    rw [Int.natCast_emod, this, Int.add_mul_emod_self_right]
  · rw [per_mod (h.mono hL), ← h.mul L m hm]
    congr 1
    omega
theorem NF.mem {α : Type} {l c a b : List α} (h : NF (sq l c) a b) : (∀ x, x ∈ a → x ∈ l ∨ x ∈ c) ∧ ∀ x, x ∈ b → x ∈ l ∨ x ∈ c := by
  have g : ∀ t x, sq l c t = some x → x ∈ l ∨ x ∈ c := fun t x e => by
    unfold sq at e
    split at e
    · exact .inl (List.mem_of_getElem? e)
    · exact .inr (List.mem_of_getElem? e)
  refine ⟨fun x hx => ?_, fun x hx => ?_⟩
  · obtain ⟨i, hi, e⟩ := List.getElem_of_mem hx
    exact g i x (by rw [← h.lead i hi, ← e, List.getElem?_eq_getElem hi])
  · obtain ⟨i, hi, e⟩ := List.getElem_of_mem hx
    exact g _ x (by rw [← h.cyc i hi, ← e, List.getElem?_eq_getElem hi])
theorem NF.size {α : Type} {l c a b : List α} (hc : 0 < c.length) (h : NF (sq l c) a b) : a.length ≤ l.length ∧ b.length ≤ c.length := by
  have p1 := h.can.pos
  refine ⟨?_, h.can.low _ hc ((sq_per (l := l) (c := c)).down h.can.per p1)⟩
  by_cases e : a.length ≤ l.length
  · exact e
  · exact h.can.first _ (h.can.per.down sq_per hc)
theorem NF.ne {α : Type} {f : Nat → Option α} {a b : List α} (h : NF f a b) : b ≠ [] := List.length_pos_iff.mp h.can.pos
end Sq

/-! mirrors of k02, printed by gen2.py -/
namespace K02
open TL
structure H_law_box where
  cells : List Int
  at_ : Int
  cell : Int
  state : Int
  turn : Int
def m_law_box (script : List Int) : Mr H_law_box :=
  (.ok ((cut script none (some (63 : Int))).map fun (x1 : Int) => (x1 % ((10 : Int) ^ 60))) : Mr (List Int)) >>= fun cells2 =>
  (.ok ((30 : Int) + (cells2.length : Int)) : Mr Int) >>= fun state3 =>
  forL cells2 state3 (fun (s4 : Int) (x5 : Int) =>
  (.ok ((((s4 * (48271 : Int)) + ((x5 % (2147483647 : Int)) * (69621 : Int))) + (11 : Int)) % (2147483647 : Int)) : Mr Int) >>= fun state6 =>
  .ok (.go state6)) >>= Stp.k fun (s4 : Int) =>
  .ok (H_law_box.mk cells2 (0 : Int) (0 : Int) s4 (0 : Int))

def m_law_take (box : H_law_box) (size : Int) : Mr (Int × H_law_box) :=
  (if ((decide (box.cell = (0 : Int))) && (decide (box.at_ < (box.cells.length : Int)))) = true then
  getI box.cells box.at_ >>= fun r1 =>
  (if (decide (((10 : Int) ^ 18) ≤ r1)) = true then
  .ok (.go (H_law_box.mk box.cells (box.at_ + (1 : Int)) r1 box.state (box.turn + (1 : Int))))
  else
  .ok (.go (H_law_box.mk box.cells (box.at_ + (1 : Int)) box.cell ((((box.state * (16807 : Int)) + (r1 * (69621 : Int))) + (box.turn + (1 : Int))) % (2147483647 : Int)) (box.turn + (1 : Int)))))
  else
  .ok (.go (H_law_box.mk box.cells box.at_ box.cell box.state (box.turn + (1 : Int))))) >>= Jn.k fun (s2 : H_law_box) =>
  (if (decide ((0 : Int) < s2.cell)) = true then
  modP s2.cell size >>= fun r3 =>
  fdivP s2.cell size >>= fun r4 =>
  .ok (r3, (H_law_box.mk s2.cells s2.at_ r4 s2.state s2.turn))
  else
  (.ok (((((((s2.state * (48271 : Int)) + (s2.turn * (40692 : Int))) + (7 : Int)) % (2147483647 : Int)) * (69621 : Int)) + (s2.turn * (7919 : Int))) % (2147483399 : Int)) : Mr Int) >>= fun mixed5 =>
  modP (mixed5 / (16 : Int)) size >>= fun r6 =>
  .ok (r6, (H_law_box.mk s2.cells s2.at_ s2.cell ((((s2.state * (48271 : Int)) + (s2.turn * (40692 : Int))) + (7 : Int)) % (2147483647 : Int)) s2.turn)))

def m_law_bits (box : H_law_box) (size : Int) : Mr ((List Nat) × H_law_box) :=
  rngP (0 : Int) size >>= fun r1 =>
  sizeP (rngI (0 : Int) size) >>= fun r2 =>
  mapS (fun (s7 : H_law_box) (x3 : Int) => m_law_take s7 (2 : Int) >>= fun r8 => sizeP [48, 49] >>= fun r9 => getI [48, 49] r8.1 >>= fun r10 => .ok ([r10], r8.2)) (rngI (0 : Int) size) box >>= fun r11 =>
  joinOk ([] : List Nat) r11.1 >>= fun r15 =>
  .ok ((joinX ([] : List Nat) r11.1), r11.2)

def m_law_drawn (box : H_law_box) : Mr (((List Nat) × (List Nat)) × H_law_box) :=
  m_law_take box (8 : Int) >>= fun r1 =>
  (if (decide (r1.1 = (5 : Int))) = true then
  m_law_take r1.2 (7 : Int) >>= fun r2 =>
  m_law_bits r2.2 ((1 : Int) + r2.1) >>= fun r3 =>
  m_law_take r3.2 (2500 : Int) >>= fun r4 =>
  (.ok ((1 : Int) + r4.1) : Mr Int) >>= fun size5 =>
  m_law_take r4.2 (3 : Int) >>= fun r6 =>
  m_law_bits r6.2 ((1 : Int) + r6.1) >>= fun r7 =>
  repOk r7.1 (2500 : Int) >>= fun r8 =>
  sizeP (repL r7.1 (2500 : Int)) >>= fun r9 =>
  m_law_take r7.2 (2500 : Int) >>= fun r10 =>
  repOk r3.1 size5 >>= fun r11 =>
  sizeP (repL r3.1 size5) >>= fun r12 =>
  .ok (((cut (repL r7.1 (2500 : Int)) none (some r10.1)), (cut (repL r3.1 size5) none (some size5))), r10.2)
  else
  m_law_take r1.2 (15 : Int) >>= fun r13 =>
  m_law_bits r13.2 r13.1 >>= fun r14 =>
  (if ((decide (r1.1 = (1 : Int))) || (decide (r1.1 = (4 : Int)))) = true then
  m_law_take r14.2 (3 : Int) >>= fun r15 =>
  repOk [48] ((1 : Int) + r15.1) >>= fun r16 =>
  .ok ((r14.1, repL [48] ((1 : Int) + r15.1)), r15.2)
  else
  (if (decide (r1.1 = (6 : Int))) = true then
  m_law_take r14.2 (3 : Int) >>= fun r17 =>
  repOk [49] ((1 : Int) + r17.1) >>= fun r18 =>
  .ok ((r14.1, repL [49] ((1 : Int) + r17.1)), r17.2)
  else
  m_law_take r14.2 (12 : Int) >>= fun r19 =>
  m_law_bits r19.2 ((1 : Int) + r19.1) >>= fun r20 =>
  m_law_take r20.2 (3 : Int) >>= fun r21 =>
  repOk r20.1 ((1 : Int) + r21.1) >>= fun r22 =>
  .ok ((r14.1, repL r20.1 ((1 : Int) + r21.1)), r21.2))))

def m_law_wide (box : H_law_box) : Mr (Int × H_law_box) :=
  (.ok (0 : Int) : Mr Int) >>= fun wide1 =>
  forL (rngI (0 : Int) (6 : Int)) (wide1, box) (fun (s2 : Int × H_law_box) (x3 : Int) =>
  m_law_take s2.2 (100000 : Int) >>= fun r4 =>
  (.ok ((s2.1 * (100000 : Int)) + r4.1) : Mr Int) >>= fun wide5 =>
  .ok (.go (wide5, r4.2))) >>= Stp.k fun (s2 : Int × H_law_box) =>
  .ok (s2.1, s2.2)

def m_law_number (box : H_law_box) (one : (List Nat) × (List Nat)) (settled : Int) : Mr (Int × H_law_box) :=
  m_law_take box (6 : Int) >>= fun r1 =>
  (if (decide (r1.1 = (1 : Int))) = true then
  sizeP one.2 >>= fun r2 =>
  m_law_take r1.2 (one.2.length : Int) >>= fun r3 =>
  .ok ((settled + r3.1), r3.2)
  else
  (if (decide (r1.1 = (2 : Int))) = true then
  .ok ((if (settled - (1 : Int)) > (0 : Int) then (settled - (1 : Int)) else (0 : Int)), r1.2)
  else
  (if (decide (r1.1 = (3 : Int))) = true then
  m_law_wide r1.2 >>= fun r4 =>
  .ok (r4.1, r4.2)
  else
  (if (decide (r1.1 = (4 : Int))) = true then
  m_law_take r1.2 (1000 : Int) >>= fun r5 =>
  .ok (((((10 : Int) ^ 30) - (1 : Int)) - r5.1), r5.2)
  else
  (if (decide (r1.1 = (5 : Int))) = true then
  m_law_take r1.2 (12 : Int) >>= fun r6 =>
  .ok (r6.1, r6.2)
  else
  sizeP one.2 >>= fun r7 =>
  m_law_take r1.2 ((settled + ((2 : Int) * (one.2.length : Int))) + (1 : Int)) >>= fun r8 =>
  .ok (r8.1, r8.2))))))

def m_law_only_days (box : H_law_box) : Mr ((List Int) × H_law_box) :=
  m_law_take box (6 : Int) >>= fun r1 =>
  m_law_take r1.2 (6 : Int) >>= fun r2 =>
  (.ok ([] : List Int) : Mr (List Int)) >>= fun drawn3 =>
  getI ([(0 : Int), (1 : Int), (2 : Int), (3 : Int), (5 : Int), (8 : Int)] : List Int) r1.1 >>= fun r4 =>
  rngP (0 : Int) r4 >>= fun r5 =>
  forL (rngI (0 : Int) r4) (r2.2, drawn3) (fun (s6 : H_law_box × (List Int)) (x7 : Int) =>
  m_law_take s6.1 (30 : Int) >>= fun r8 =>
  growOk s6.2 >>= fun r9 =>
  (if (decide ((0 : Int) < x7)) = true then m_law_take r8.2 (5 : Int) >>= fun r10 => .ok ((decide (r10.1 = (0 : Int))), r10.2) else .ok (false, r8.2) : Mr (Bool × H_law_box)) >>= fun r12 =>
  (if r12.1 = true then
  m_law_take r12.2 x7 >>= fun r14 =>
  getI (s6.2 ++ [r8.1]) r14.1 >>= fun r15 =>
  setI (s6.2 ++ [r8.1]) x7 r15 >>= fun r16 =>
  .ok (.go (r14.2, r16))
  else
  .ok (.go (r12.2, (s6.2 ++ [r8.1]))))) >>= Stp.k fun (s6 : H_law_box × (List Int)) =>
  (if ((decide (r2.1 < (2 : Int))) && (decide ((0 : Int) < (s6.2.length : Int)))) = true then
  getI ([(4996 : Int), (9996 : Int)] : List Int) r2.1 >>= fun r17 =>
  m_law_take s6.1 (5 : Int) >>= fun r18 =>
  m_law_take r18.2 (s6.2.length : Int) >>= fun r19 =>
  setI s6.2 r19.1 (r17 + r18.1) >>= fun r20 =>
  .ok (.go (r19.2, r20))
  else
  .ok (.go (s6.1, s6.2))) >>= Jn.k fun (s21 : H_law_box × (List Int)) =>
  .ok (s21.2, s21.1)

def m_only_marks (text : List Nat) : Mr Bool :=
  sizeP text >>= fun r1 =>
  .ok (decide (((((text.count 48 : Nat) : Int)) + (((text.count 49 : Nat) : Int))) = (text.length : Int)))

def m_divisors_of (number : Int) : Mr (List Int) :=
  (.ok ([] : List Int) : Mr (List Int)) >>= fun small1 =>
  (.ok ([] : List Int) : Mr (List Int)) >>= fun large2 =>
  (.ok (1 : Int) : Mr Int) >>= fun divisor3 =>
  whileL (fun (s4 : Int × (List Int) × (List Int)) => mulP s4.1 s4.1 >>= fun r5 => .ok (decide (r5 ≤ number))) (fun (s4 : Int × (List Int) × (List Int)) =>
  modP number s4.1 >>= fun r6 =>
  (if (decide (r6 = (0 : Int))) = true then
  growOk s4.2.1 >>= fun r7 =>
  mulP s4.1 s4.1 >>= fun r8 =>
  (if (!decide (r8 = number)) = true then
  fdivP number s4.1 >>= fun r9 =>
  growOk s4.2.2 >>= fun r10 =>
  .ok (.go ((s4.2.1 ++ [s4.1]), (s4.2.2 ++ [r9])))
  else
  .ok (.go ((s4.2.1 ++ [s4.1]), s4.2.2)))
  else
  .ok (.go (s4.2.1, s4.2.2))) >>= Jn.k fun (s11 : (List Int) × (List Int)) =>
  .ok (.go ((s4.1 + (1 : Int)), s11.1, s11.2))) (number.toNat + 2) (divisor3, small1, large2) >>= Stp.k fun (s4 : Int × (List Int) × (List Int)) =>
  catOk s4.2.1 s4.2.2.reverse >>= fun r12 =>
  .ok (s4.2.1 ++ s4.2.2.reverse)

def m_least_period (cycle : List (List Nat)) : Mr Int :=
  (.ok (cycle.length : Int) : Mr Int) >>= fun count1 =>
  m_divisors_of count1 >>= fun r2 =>
  forL r2 () (fun (s3 : Unit) (x4 : Int) =>
  fdivP count1 x4 >>= fun r5 =>
  repOk (cut cycle none (some x4)) r5 >>= fun r6 =>
  wellP ((cycle.all fun y => okT y) && ((repL (cut cycle none (some x4)) r5).all fun y => okT y)) >>= fun r7 =>
  (if (cycle == (repL (cut cycle none (some x4)) r5)) = true then
  .ok (.out x4)
  else
  .ok (.go ()))) >>= Stp.k fun (s3 : Unit) =>
  .ok count1

def m_normal_form (lead : List (List Nat)) (cycle : List (List Nat)) : Mr ((List (List Nat)) × (List (List Nat))) :=
  m_least_period cycle >>= fun r1 =>
  (.ok (lead.length : Int) : Mr Int) >>= fun start2 =>
  whileL (fun (s3 : Int) => ((if (decide ((0 : Int) < s3)) = true then getI lead (s3 - (1 : Int)) >>= fun r4 => modP ((s3 - (1 : Int)) - (lead.length : Int)) r1 >>= fun r5 => getI cycle r5 >>= fun r6 => .ok (decide (r4 = r6)) else .ok false) : Mr Bool) >>= fun r7 => .ok r7) (fun (s3 : Int) =>
  .ok (.go (s3 - (1 : Int)))) (lead.length + 1) start2 >>= Stp.k fun (s3 : Int) =>
  modP (s3 - (lead.length : Int)) r1 >>= fun r9 =>
  catOk (cut cycle (some r9) (some r1)) (cut cycle none (some r9)) >>= fun r10 =>
  .ok ((cut lead none (some s3)), ((cut cycle (some r9) (some r1)) ++ (cut cycle none (some r9))))

structure C_DaySet where
  lead : List Nat
  cycle : List Nat
  start : Int
  period : Int

def m_DaySet____init__ (self : Unit) (lead : List Nat) (cycle : List Nat) : Mr (Rz Unit C_DaySet) :=
  ((if (decide (cycle = ([] : List Nat))) = true then .ok true else m_only_marks lead >>= fun r1 => ((if (!r1) = true then .ok true else m_only_marks cycle >>= fun r2 => .ok (!r2)) : Mr Bool) >>= fun r3 => .ok r3) : Mr Bool) >>= fun r5 =>
  (if r5 = true then
  .ok (.exc (⟨0, [.int (1 : Int)]⟩ : Xc) ())
  else
  sizeP lead >>= fun r7 =>
  sizeP cycle >>= fun r8 =>
  m_normal_form (lead.map fun c => [c]) (cycle.map fun c => [c]) >>= fun r9 =>
  (if (decide ((5000 : Int) < ((r9.1.length : Int) + (r9.2.length : Int)))) = true then
  .ok (.exc (⟨1, [.int (5000 : Int)]⟩ : Xc) ())
  else
  joinOk ([] : List Nat) r9.1 >>= fun r10 =>
  joinOk ([] : List Nat) r9.2 >>= fun r11 =>
  .ok (.ret (C_DaySet.mk (joinX ([] : List Nat) r9.1) (joinX ([] : List Nat) r9.2) (r9.1.length : Int) (r9.2.length : Int)))))

def m_DaySet__only (days : List Int) : Mr (Rz Unit C_DaySet) :=
  repOk ([[48]] : List (List Nat)) ((maxD0 (-1 : Int) days) + (1 : Int)) >>= fun r1 =>
  (.ok (repL ([[48]] : List (List Nat)) ((maxD0 (-1 : Int) days) + (1 : Int))) : Mr (List (List Nat))) >>= fun marks2 =>
  forL days marks2 (fun (s3 : List (List Nat)) (x4 : Int) =>
  setI s3 x4 [49] >>= fun r5 =>
  .ok (.go r5)) >>= Stp.k fun (s3 : List (List Nat)) =>
  joinOk ([] : List Nat) s3 >>= fun r6 =>
  m_DaySet____init__ () (joinX ([] : List Nat) s3) [48] >>= Rz.k (fun r7 =>
  .ok (.ret r7)) (fun x7_ c7 => .ok (.exc x7_ ()))

def m_law_only_made (drawn : List Int) : Mr ((List Nat) × (C_DaySet ⊕ Int)) :=
  (.ok (drawn.length : Int) : Mr Int) >>= fun count1 =>
  repOk ([(0 : Int)] : List Int) (8 : Int) >>= fun r2 =>
  catOk drawn (repL ([(0 : Int)] : List Int) (8 : Int)) >>= fun r3 =>
  (.ok (cut (drawn ++ (repL ([(0 : Int)] : List Int) (8 : Int))) none (some (8 : Int))) : Mr (List Int)) >>= fun a4 =>
  ((if (decide (count1 = (0 : Int))) = true then
  m_DaySet__only ([] : List Int) >>= Rz.k (fun r7 =>
  .ok (.out ([115, 101, 116], (.inl r7 : C_DaySet ⊕ Int)))) (fun x7_ c7 => .ok (.exc x7_ ()))
  else
  (if (decide (count1 = (1 : Int))) = true then
  getI a4 (0 : Int) >>= fun r8 =>
  m_DaySet__only ([r8] : List Int) >>= Rz.k (fun r9 =>
  .ok (.out ([115, 101, 116], (.inl r9 : C_DaySet ⊕ Int)))) (fun x9_ c9 => .ok (.exc x9_ ()))
  else
  (if (decide (count1 = (2 : Int))) = true then
  getI a4 (0 : Int) >>= fun r10 =>
  getI a4 (1 : Int) >>= fun r11 =>
  m_DaySet__only ([r10, r11] : List Int) >>= Rz.k (fun r12 =>
  .ok (.out ([115, 101, 116], (.inl r12 : C_DaySet ⊕ Int)))) (fun x12_ c12 => .ok (.exc x12_ ()))
  else
  (if (decide (count1 = (3 : Int))) = true then
  getI a4 (0 : Int) >>= fun r13 =>
  getI a4 (1 : Int) >>= fun r14 =>
  getI a4 (2 : Int) >>= fun r15 =>
  m_DaySet__only ([r13, r14, r15] : List Int) >>= Rz.k (fun r16 =>
  .ok (.out ([115, 101, 116], (.inl r16 : C_DaySet ⊕ Int)))) (fun x16_ c16 => .ok (.exc x16_ ()))
  else
  (if (decide (count1 = (5 : Int))) = true then
  getI a4 (0 : Int) >>= fun r17 =>
  getI a4 (1 : Int) >>= fun r18 =>
  getI a4 (2 : Int) >>= fun r19 =>
  getI a4 (3 : Int) >>= fun r20 =>
  getI a4 (4 : Int) >>= fun r21 =>
  m_DaySet__only ([r17, r18, r19, r20, r21] : List Int) >>= Rz.k (fun r22 =>
  .ok (.out ([115, 101, 116], (.inl r22 : C_DaySet ⊕ Int)))) (fun x22_ c22 => .ok (.exc x22_ ()))
  else
  getI a4 (0 : Int) >>= fun r23 =>
  getI a4 (1 : Int) >>= fun r24 =>
  getI a4 (2 : Int) >>= fun r25 =>
  getI a4 (3 : Int) >>= fun r26 =>
  getI a4 (4 : Int) >>= fun r27 =>
  getI a4 (5 : Int) >>= fun r28 =>
  getI a4 (6 : Int) >>= fun r29 =>
  getI a4 (7 : Int) >>= fun r30 =>
  m_DaySet__only ([r23, r24, r25, r26, r27, r28, r29, r30] : List Int) >>= Rz.k (fun r31 =>
  .ok (.out ([115, 101, 116], (.inl r31 : C_DaySet ⊕ Int)))) (fun x31_ c31 => .ok (.exc x31_ ()))))))) : Mr (Tn Unit Unit ((List Nat) × (C_DaySet ⊕ Int)))) >>= Tn.k (fun z => z) (fun _ => .error .stuck) (fun (x38_ : Xc) (c39 : Unit) => if (fun n => n == 1) x38_.cls = true then (fun (x32_ : Xc) (c34 : Unit) => (xInt x32_ 0 >>= fun r35 =>
  .ok (.out ([108, 111, 110, 103], (.inr r35 : C_DaySet ⊕ Int))) : Mr (Jn Unit ((List Nat) × (C_DaySet ⊕ Int))))) x38_ c39 >>= Jn.kE (fun z => z) (fun _ => .error .stuck) else (fun (x36_ : Xc) (c37 : Unit) => .error .stuck) x38_ c39)

def m_law_normal (lead : List Nat) (cycle : List Nat) : Mr ((List Nat) × (List Nat)) :=
  sizeP cycle >>= fun r1 =>
  (.ok (cycle.length : Int) : Mr Int) >>= fun size2 =>
  rngP (1 : Int) size2 >>= fun r3 =>
  forL (rngI (1 : Int) size2) size2 (fun (s4 : Int) (x5 : Int) =>
  sizeP cycle >>= fun r6 =>
  sizeP cycle >>= fun r7 =>
  catOk (cut cycle (some x5) none) (cut cycle none (some x5)) >>= fun r8 =>
  (if (decide (((cut cycle (some x5) none) ++ (cut cycle none (some x5))) = cycle)) = true then
  .ok (.brk x5)
  else
  .ok (.go s4))) >>= Stp.k fun (s4 : Int) =>
  catOk lead cycle >>= fun r9 =>
  catOk (lead ++ cycle) cycle >>= fun r10 =>
  (.ok ((lead ++ cycle) ++ cycle) : Mr (List Nat)) >>= fun row11 =>
  sizeP lead >>= fun r12 =>
  (.ok (lead.length : Int) : Mr Int) >>= fun settled13 =>
  whileL (fun (s14 : Int) => ((if (decide ((0 : Int) < s14)) = true then sizeP row11 >>= fun r15 => getI row11 (s14 - (1 : Int)) >>= fun r16 => sizeP row11 >>= fun r17 => getI row11 ((s14 - (1 : Int)) + s4) >>= fun r18 => .ok (decide ([r16] = [r18])) else .ok false) : Mr Bool) >>= fun r19 => .ok r19) (fun (s14 : Int) =>
  (.ok (s14 - (1 : Int)) : Mr Int) >>= fun settled21 =>
  .ok (.go settled21)) (lead.length + 1) settled13 >>= Stp.k fun (s14 : Int) =>
  sizeP row11 >>= fun r22 =>
  sizeP row11 >>= fun r23 =>
  .ok ((cut row11 none (some s14)), (cut row11 (some s14) (some (s14 + s4))))

def m_law_only_due (drawn : List Int) : Mr ((List Nat) × (List Nat)) :=
  catOk ([(0 : Int)] : List Int) drawn >>= fun r1 =>
  maxL (([(0 : Int)] : List Int) ++ drawn) >>= fun r2 =>
  repOk [48] ((1 : Int) + r2) >>= fun r3 =>
  (.ok (repL [48] ((1 : Int) + r2)) : Mr (List Nat)) >>= fun row4 =>
  forL drawn row4 (fun (s5 : List Nat) (x6 : Int) =>
  sizeP s5 >>= fun r7 =>
  catOk (cut s5 none (some x6)) [49] >>= fun r8 =>
  sizeP s5 >>= fun r9 =>
  catOk ((cut s5 none (some x6)) ++ [49]) (cut s5 (some (x6 + (1 : Int))) none) >>= fun r10 =>
  (.ok (((cut s5 none (some x6)) ++ [49]) ++ (cut s5 (some (x6 + (1 : Int))) none)) : Mr (List Nat)) >>= fun row11 =>
  .ok (.go row11)) >>= Stp.k fun (s5 : List Nat) =>
  m_law_normal s5 [48] >>= fun r12 =>
  .ok r12

def m_law_integer (actual : Int) (due : Int) : Mr Bool :=
  .ok (true && ((!false) && (decide (actual = due))))

def m_DaySet____str__ (self : C_DaySet) : Mr (List Nat) :=
  sizeP self.lead >>= fun r1 =>
  sizeP self.cycle >>= fun r2 =>
  sizeP (self.lead ++ ([40] ++ (self.cycle ++ ([41] ++ [])))) >>= fun r3 =>
  .ok (self.lead ++ ([40] ++ (self.cycle ++ ([41] ++ []))))

def m_law_shown (days : C_DaySet) (due : (List Nat) × (List Nat)) : Mr Bool :=
  (if (!true) = true then
  .error .stuck
  else
  sizeP due.1 >>= fun r1 =>
  m_law_integer days.start (due.1.length : Int) >>= fun r2 =>
  ((if (!r2) = true then .ok true else sizeP due.2 >>= fun r3 => m_law_integer days.period (due.2.length : Int) >>= fun r4 => .ok (!r4)) : Mr Bool) >>= fun r5 =>
  (if r5 = true then
  .ok false
  else
  (if ((!true) || (!true)) = true then
  .ok false
  else
  (if ((!decide (days.lead = due.1)) || (!decide (days.cycle = due.2))) = true then
  .ok false
  else
  m_DaySet____str__ days >>= fun r7 =>
  catOk due.1 [40] >>= fun r8 =>
  catOk (due.1 ++ [40]) due.2 >>= fun r9 =>
  catOk ((due.1 ++ [40]) ++ due.2) [41] >>= fun r10 =>
  .ok (decide (r7 = (((due.1 ++ [40]) ++ due.2) ++ [41])))))))

def m_law_as_due (outcome : (List Nat) × (C_DaySet ⊕ Int)) (due : (List Nat) × (List Nat)) : Mr Bool :=
  sizeP due.1 >>= fun r1 =>
  sizeP due.2 >>= fun r2 =>
  (if (decide ((5000 : Int) < ((due.1.length : Int) + (due.2.length : Int)))) = true then
  ((if (decide (outcome.1 = [108, 111, 110, 103])) = true then getR outcome.2 >>= fun r3 => m_law_integer r3 (5000 : Int) >>= fun r4 => .ok r4 else .ok false) : Mr Bool) >>= fun r5 =>
  .ok r5
  else
  ((if (decide (outcome.1 = [115, 101, 116])) = true then getL outcome.2 >>= fun r7 => m_law_shown r7 due >>= fun r8 => .ok r8 else .ok false) : Mr Bool) >>= fun r9 =>
  .ok r9)

def m_law_bound_day (box : H_law_box) : Mr (Int × H_law_box) :=
  m_law_take box (6 : Int) >>= fun r1 =>
  (if (decide (r1.1 = (4 : Int))) = true then
  m_law_take r1.2 (6 : Int) >>= fun r2 =>
  .ok (((4996 : Int) + r2.1), r2.2)
  else
  (if (decide (r1.1 = (5 : Int))) = true then
  m_law_take r1.2 (11 : Int) >>= fun r3 =>
  .ok (((9990 : Int) + r3.1), r3.2)
  else
  m_law_take r1.2 (25 : Int) >>= fun r4 =>
  .ok (r4.1, r4.2)))

def m_DaySet__span (first : Int) (last : Int) : Mr (Rz Unit C_DaySet) :=
  (if (decide (last < first)) = true then
  m_DaySet____init__ () ([] : List Nat) [48] >>= Rz.k (fun r1 =>
  .ok (.ret r1)) (fun x1_ c1 => .ok (.exc x1_ ()))
  else
  repOk [48] first >>= fun r2 =>
  repOk [49] ((last - first) + (1 : Int)) >>= fun r3 =>
  catOk (repL [48] first) (repL [49] ((last - first) + (1 : Int))) >>= fun r4 =>
  m_DaySet____init__ () ((repL [48] first) ++ (repL [49] ((last - first) + (1 : Int)))) [48] >>= Rz.k (fun r5 =>
  .ok (.ret r5)) (fun x5_ c5 => .ok (.exc x5_ ())))

def m_law_span_made (named : Bool) (head : Int) (tail : Int) : Mr ((List Nat) × (C_DaySet ⊕ Int)) :=
  ((if named = true then
  m_DaySet__span head tail >>= Rz.k (fun r3 =>
  .ok (.out ([115, 101, 116], (.inl r3 : C_DaySet ⊕ Int)))) (fun x3_ c3 => .ok (.exc x3_ ()))
  else
  m_DaySet__span head tail >>= Rz.k (fun r4 =>
  .ok (.out ([115, 101, 116], (.inl r4 : C_DaySet ⊕ Int)))) (fun x4_ c4 => .ok (.exc x4_ ()))) : Mr (Tn Unit Unit ((List Nat) × (C_DaySet ⊕ Int)))) >>= Tn.k (fun z => z) (fun _ => .error .stuck) (fun (x11_ : Xc) (c12 : Unit) => if (fun n => n == 1) x11_.cls = true then (fun (x5_ : Xc) (c7 : Unit) => (xInt x5_ 0 >>= fun r8 =>
  .ok (.out ([108, 111, 110, 103], (.inr r8 : C_DaySet ⊕ Int))) : Mr (Jn Unit ((List Nat) × (C_DaySet ⊕ Int))))) x11_ c12 >>= Jn.kE (fun z => z) (fun _ => .error .stuck) else (fun (x9_ : Xc) (c10 : Unit) => .error .stuck) x11_ c12)

def m_law_span_due (head : Int) (tail : Int) : Mr ((List Nat) × (List Nat)) :=
  (if (decide (tail < head)) = true then
  .ok (([] : List Nat), [48])
  else
  repOk [48] head >>= fun r1 =>
  repOk [49] ((tail - head) + (1 : Int)) >>= fun r2 =>
  catOk (repL [48] head) (repL [49] ((tail - head) + (1 : Int))) >>= fun r3 =>
  m_law_normal ((repL [48] head) ++ (repL [49] ((tail - head) + (1 : Int)))) [48] >>= fun r4 =>
  .ok r4)

def m_law_length (box : H_law_box) : Mr (Int × H_law_box) :=
  m_law_take box (16 : Int) >>= fun r1 =>
  (if (decide (r1.1 = (3 : Int))) = true then
  m_law_take r1.2 (14 : Int) >>= fun r2 =>
  .ok (((4990 : Int) + r2.1), r2.2)
  else
  (if (decide (r1.1 = (10 : Int))) = true then
  m_law_take r1.2 (10000 : Int) >>= fun r3 =>
  .ok (((1 : Int) + r3.1), r3.2)
  else
  m_law_take r1.2 (14 : Int) >>= fun r4 =>
  .ok (((1 : Int) + r4.1), r4.2)))

def m_law_begin (box : H_law_box) : Mr (Int × H_law_box) :=
  m_law_take box (8 : Int) >>= fun r1 =>
  (if (decide (r1.1 = (2 : Int))) = true then
  m_law_take r1.2 (3 : Int) >>= fun r2 =>
  .ok (((10000 : Int) - r2.1), r2.2)
  else
  (if (decide (r1.1 = (5 : Int))) = true then
  m_law_take r1.2 (30 : Int) >>= fun r3 =>
  .ok (((4980 : Int) + r3.1), r3.2)
  else
  m_law_take r1.2 (30 : Int) >>= fun r4 =>
  .ok (r4.1, r4.2)))

def m_DaySet__every (length : Int) (at_ : Int) (since : Int) : Mr (Rz Unit C_DaySet) :=
  rngP (0 : Int) length >>= fun r1 =>
  sizeP (rngI (0 : Int) length) >>= fun r2 =>
  mapR (fun (x3 : Int) => modP (since + x3) length >>= fun r4 => .ok (if (decide (r4 = at_)) = true then [49] else [48])) (rngI (0 : Int) length) >>= fun r5 =>
  repOk [48] since >>= fun r8 =>
  joinOk ([] : List Nat) r5 >>= fun r9 =>
  m_DaySet____init__ () (repL [48] since) (joinX ([] : List Nat) r5) >>= Rz.k (fun r10 =>
  .ok (.ret r10)) (fun x10_ c10 => .ok (.exc x10_ ()))

def m_law_every_made (form : Int) (length : Int) (place : Int) (begin : Int) : Mr ((List Nat) × (C_DaySet ⊕ Int)) :=
  ((if (decide (form = (0 : Int))) = true then
  m_DaySet__every length (0 : Int) (0 : Int) >>= Rz.k (fun r3 =>
  .ok (.out ([115, 101, 116], (.inl r3 : C_DaySet ⊕ Int)))) (fun x3_ c3 => .ok (.exc x3_ ()))
  else
  (if (decide (form = (1 : Int))) = true then
  m_DaySet__every length place (0 : Int) >>= Rz.k (fun r4 =>
  .ok (.out ([115, 101, 116], (.inl r4 : C_DaySet ⊕ Int)))) (fun x4_ c4 => .ok (.exc x4_ ()))
  else
  (if (decide (form = (2 : Int))) = true then
  m_DaySet__every length (0 : Int) begin >>= Rz.k (fun r5 =>
  .ok (.out ([115, 101, 116], (.inl r5 : C_DaySet ⊕ Int)))) (fun x5_ c5 => .ok (.exc x5_ ()))
  else
  m_DaySet__every length place begin >>= Rz.k (fun r6 =>
  .ok (.out ([115, 101, 116], (.inl r6 : C_DaySet ⊕ Int)))) (fun x6_ c6 => .ok (.exc x6_ ()))))) : Mr (Tn Unit Unit ((List Nat) × (C_DaySet ⊕ Int)))) >>= Tn.k (fun z => z) (fun _ => .error .stuck) (fun (x13_ : Xc) (c14 : Unit) => if (fun n => n == 1) x13_.cls = true then (fun (x7_ : Xc) (c9 : Unit) => (xInt x7_ 0 >>= fun r10 =>
  .ok (.out ([108, 111, 110, 103], (.inr r10 : C_DaySet ⊕ Int))) : Mr (Jn Unit ((List Nat) × (C_DaySet ⊕ Int))))) x13_ c14 >>= Jn.kE (fun z => z) (fun _ => .error .stuck) else (fun (x11_ : Xc) (c12 : Unit) => .error .stuck) x13_ c14)

def m_law_every_due (length : Int) (place : Int) (begin : Int) : Mr ((List Nat) × (List Nat)) :=
  rngP begin (begin + length) >>= fun r1 =>
  sizeP (rngI begin (begin + length)) >>= fun r2 =>
  mapR (fun (x3 : Int) => modP x3 length >>= fun r4 => sizeP [48, 49] >>= fun r5 => getI [48, 49] (if (decide (r4 = place)) = true then 1 else 0) >>= fun r6 => .ok [r6]) (rngI begin (begin + length)) >>= fun r7 =>
  joinOk ([] : List Nat) r7 >>= fun r10 =>
  (.ok (joinX ([] : List Nat) r7) : Mr (List Nat)) >>= fun cycle11 =>
  repOk [48] begin >>= fun r12 =>
  m_law_normal (repL [48] begin) cycle11 >>= fun r13 =>
  .ok r13

def m_law_made_hold (box : H_law_box) : Mr (Bool × H_law_box) :=
  m_law_only_days box >>= fun r1 =>
  m_law_only_made r1.1 >>= fun r2 =>
  m_law_only_due r1.1 >>= fun r3 =>
  m_law_as_due r2 r3 >>= fun r4 =>
  (if (!r4) = true then
  .ok (false, r1.2)
  else
  m_law_bound_day r1.2 >>= fun r5 =>
  m_law_bound_day r5.2 >>= fun r6 =>
  m_law_take r6.2 (5 : Int) >>= fun r7 =>
  m_law_span_made (decide (r7.1 = (4 : Int))) r5.1 r6.1 >>= fun r8 =>
  m_law_span_due r5.1 r6.1 >>= fun r9 =>
  m_law_as_due r8 r9 >>= fun r10 =>
  (if (!r10) = true then
  .ok (false, r7.2)
  else
  m_law_length r7.2 >>= fun r11 =>
  m_law_take r11.2 r11.1 >>= fun r12 =>
  m_law_begin r12.2 >>= fun r13 =>
  m_law_every_made r7.1 r11.1 r12.1 r13.1 >>= fun r14 =>
  (if ((decide (r7.1 = (0 : Int))) || (decide (r7.1 = (2 : Int)))) = true then
  (.ok (0 : Int) : Mr Int) >>= fun place15 =>
  .ok (.go place15)
  else
  .ok (.go r12.1)) >>= Jn.k fun (s16 : Int) =>
  (if (decide (r7.1 < (2 : Int))) = true then
  (.ok (0 : Int) : Mr Int) >>= fun begin17 =>
  .ok (.go begin17)
  else
  .ok (.go r13.1)) >>= Jn.k fun (s18 : Int) =>
  m_law_every_due r11.1 s16 s18 >>= fun r19 =>
  m_law_as_due r14 r19 >>= fun r20 =>
  .ok (r20, r13.2)))

def m_DaySet____contains__ (self : C_DaySet) (day : Int) : Mr Bool :=
  (if (decide (day < self.start)) = true then
  sizeP self.lead >>= fun r1 =>
  getI self.lead day >>= fun r2 =>
  .ok (decide ([r2] = [49]))
  else
  modP (day - self.start) self.period >>= fun r3 =>
  sizeP self.cycle >>= fun r4 =>
  getI self.cycle r3 >>= fun r5 =>
  .ok (decide ([r5] = [49])))

def m_law_member (one : (List Nat) × (List Nat)) (when : Int) : Mr Bool :=
  sizeP one.1 >>= fun r1 =>
  (if (decide (when < (one.1.length : Int))) = true then
  sizeP one.1 >>= fun r2 =>
  getI one.1 when >>= fun r3 =>
  .ok (decide ([r3] = [49]))
  else
  sizeP one.1 >>= fun r4 =>
  sizeP one.2 >>= fun r5 =>
  modP (when - (one.1.length : Int)) (one.2.length : Int) >>= fun r6 =>
  sizeP one.2 >>= fun r7 =>
  getI one.2 r6 >>= fun r8 =>
  .ok (decide ([r8] = [49])))

def m_law_truth (actual : Bool) (due : Bool) : Mr Bool :=
  (if due = true then
  .ok (decide (actual = true))
  else
  .ok (decide (actual = false)))

def m_DaySet__next_from (self : C_DaySet) (day : Int) : Mr (Option Int) :=
  (if (decide (day < self.start)) = true then
  (.ok (findX3 self.lead 49 day) : Mr Int) >>= fun at1 =>
  (if (decide ((0 : Int) ≤ at1)) = true then
  .ok (.out (some at1))
  else
  .ok (.go ()))
  else
  .ok (.go ())) >>= Jn.k fun (s2 : Unit) =>
  (.ok (if self.start > day then self.start else day) : Mr Int) >>= fun first3 =>
  modP (first3 - self.start) self.period >>= fun r4 =>
  sizeP self.cycle >>= fun r5 =>
  sizeP self.cycle >>= fun r6 =>
  catOk (cut self.cycle (some r4) none) (cut self.cycle none (some r4)) >>= fun r7 =>
  (.ok (findX ((cut self.cycle (some r4) none) ++ (cut self.cycle none (some r4))) 49) : Mr Int) >>= fun at8 =>
  (if (decide (at8 < (0 : Int))) = true then
  .ok (none : Option Int)
  else
  .ok (some (first3 + at8)))

def m_law_next (one : (List Nat) × (List Nat)) (when : Int) : Mr (Option Int) :=
  sizeP one.1 >>= fun r1 =>
  (.ok (one.1.length : Int) : Mr Int) >>= fun settled2 =>
  (if (decide (when < settled2)) = true then
  catOk one.1 one.2 >>= fun r3 =>
  (.ok (findX3 (one.1 ++ one.2) 49 when) : Mr Int) >>= fun met4 =>
  (if (decide (met4 < (0 : Int))) = true then
  .ok (none : Option Int)
  else
  .ok (some met4))
  else
  sizeP one.2 >>= fun r5 =>
  modP (when - settled2) (one.2.length : Int) >>= fun r6 =>
  catOk one.2 one.2 >>= fun r7 =>
  (.ok (findX3 (one.2 ++ one.2) 49 r6) : Mr Int) >>= fun met8 =>
  (if (decide (met8 < (0 : Int))) = true then
  .ok (none : Option Int)
  else
  .ok (some ((when + met8) - r6))))

def m_law_integer_1 (actual : Int) (due : Option Int) : Mr Bool :=
  ((if true = true then ((if (!false) = true then getO due >>= fun r1 => .ok (decide (actual = r1)) else .ok false) : Mr Bool) >>= fun r2 => .ok r2 else .ok false) : Mr Bool) >>= fun r4 =>
  .ok r4

def m_law_same (actual : Option Int) (due : Option Int) : Mr Bool :=
  (if due.isNone = true then
  .ok actual.isNone
  else
  getO actual >>= fun r1 =>
  m_law_integer_1 r1 due >>= fun r2 =>
  .ok r2)

def m_DaySet__count_before (self : C_DaySet) (day : Int) : Mr Int :=
  (if (decide (day ≤ self.start)) = true then
  sizeP self.lead >>= fun r1 =>
  .ok ((((cut self.lead none (some day)).count 49 : Nat) : Int))
  else
  divP (day - self.start) self.period >>= fun r2 =>
  (.ok (((self.cycle.count 49 : Nat) : Int)) : Mr Int) >>= fun each3 =>
  mulP r2.1 each3 >>= fun r4 =>
  sizeP self.cycle >>= fun r5 =>
  .ok (((((self.lead.count 49 : Nat) : Int)) + r4) + ((((cut self.cycle none (some r2.2)).count 49 : Nat) : Int))))

def m_law_count (one : (List Nat) × (List Nat)) (when : Int) : Mr Int :=
  sizeP one.1 >>= fun r1 =>
  (.ok (one.1.length : Int) : Mr Int) >>= fun settled2 =>
  (if (decide (when ≤ settled2)) = true then
  sizeP one.1 >>= fun r3 =>
  .ok ((((cut one.1 none (some when)).count 49 : Nat) : Int))
  else
  sizeP one.2 >>= fun r4 =>
  fdivP (when - settled2) (one.2.length : Int) >>= fun r5 =>
  sizeP one.2 >>= fun r6 =>
  modP (when - settled2) (one.2.length : Int) >>= fun r7 =>
  mulP r5 (((one.2.count 49 : Nat) : Int)) >>= fun r8 =>
  sizeP one.2 >>= fun r9 =>
  .ok (((((one.1.count 49 : Nat) : Int)) + r8) + ((((cut one.2 none (some r7)).count 49 : Nat) : Int))))

def m_place_of (text : List Nat) (index : Int) : Mr Int :=
  (.ok (findX text 49) : Mr Int) >>= fun at1 =>
  rngP (0 : Int) index >>= fun r2 =>
  forL (rngI (0 : Int) index) at1 (fun (s3 : Int) (x4 : Int) =>
  (.ok (findX3 text 49 (s3 + (1 : Int))) : Mr Int) >>= fun at5 =>
  .ok (.go at5)) >>= Stp.k fun (s3 : Int) =>
  .ok s3

def m_DaySet__nth (self : C_DaySet) (index : Int) : Mr (Option Int) :=
  (.ok (((self.lead.count 49 : Nat) : Int)) : Mr Int) >>= fun early1 =>
  (if (decide (index < early1)) = true then
  m_place_of self.lead index >>= fun r2 =>
  .ok (some r2)
  else
  (.ok (((self.cycle.count 49 : Nat) : Int)) : Mr Int) >>= fun each3 =>
  (if (decide (each3 = (0 : Int))) = true then
  .ok (none : Option Int)
  else
  divP (index - early1) each3 >>= fun r4 =>
  mulP r4.1 self.period >>= fun r5 =>
  m_place_of self.cycle r4.2 >>= fun r6 =>
  .ok (some ((self.start + r5) + r6))))

def m_law_member_1 (one : (List Nat) × (List Nat)) (when : Option Int) : Mr Bool :=
  sizeP one.1 >>= fun r1 =>
  getO when >>= fun r2 =>
  (if (decide (r2 < (one.1.length : Int))) = true then
  getO when >>= fun r3 =>
  sizeP one.1 >>= fun r4 =>
  getI one.1 r3 >>= fun r5 =>
  .ok (decide ([r5] = [49]))
  else
  getO when >>= fun r6 =>
  sizeP one.1 >>= fun r7 =>
  sizeP one.2 >>= fun r8 =>
  modP (r6 - (one.1.length : Int)) (one.2.length : Int) >>= fun r9 =>
  sizeP one.2 >>= fun r10 =>
  getI one.2 r9 >>= fun r11 =>
  .ok (decide ([r11] = [49])))

def m_law_count_1 (one : (List Nat) × (List Nat)) (when : Option Int) : Mr Int :=
  sizeP one.1 >>= fun r1 =>
  (.ok (one.1.length : Int) : Mr Int) >>= fun settled2 =>
  getO when >>= fun r3 =>
  (if (decide (r3 ≤ settled2)) = true then
  sizeP one.1 >>= fun r4 =>
  getO when >>= fun r5 =>
  .ok ((((cut one.1 none (some r5)).count 49 : Nat) : Int))
  else
  getO when >>= fun r6 =>
  sizeP one.2 >>= fun r7 =>
  fdivP (r6 - settled2) (one.2.length : Int) >>= fun r8 =>
  getO when >>= fun r9 =>
  sizeP one.2 >>= fun r10 =>
  modP (r9 - settled2) (one.2.length : Int) >>= fun r11 =>
  mulP r8 (((one.2.count 49 : Nat) : Int)) >>= fun r12 =>
  sizeP one.2 >>= fun r13 =>
  .ok (((((one.1.count 49 : Nat) : Int)) + r12) + ((((cut one.2 none (some r11)).count 49 : Nat) : Int))))

def m_law_nth_holds (one : (List Nat) × (List Nat)) (rank : Int) (actual : Option Int) : Mr Bool :=
  (if ((!one.2.contains 49) && (decide ((((one.1.count 49 : Nat) : Int)) ≤ rank))) = true then
  .ok actual.isNone
  else
  ((if (!(if actual.isSome = true then true else false)) = true then .ok true else ((if (if actual.isSome = true then false else false) = true then .ok true else getO actual >>= fun r1 => .ok (decide (r1 < (0 : Int)))) : Mr Bool) >>= fun r2 => .ok r2) : Mr Bool) >>= fun r4 =>
  (if r4 = true then
  .ok false
  else
  m_law_member_1 one actual >>= fun r6 =>
  ((if r6 = true then m_law_count_1 one actual >>= fun r7 => .ok (decide (r7 = rank)) else .ok false) : Mr Bool) >>= fun r8 =>
  .ok r8))

def m_law_day_holds (days : C_DaySet) (one : (List Nat) × (List Nat)) (when : Int) (rank : Int) : Mr Bool :=
  m_DaySet____contains__ days when >>= fun r1 =>
  m_law_member one when >>= fun r2 =>
  m_law_truth r1 r2 >>= fun r3 =>
  (if (!r3) = true then
  .ok false
  else
  m_DaySet__next_from days when >>= fun r4 =>
  m_law_next one when >>= fun r5 =>
  m_law_same r4 r5 >>= fun r6 =>
  (if (!r6) = true then
  .ok false
  else
  m_DaySet__count_before days when >>= fun r7 =>
  m_law_count one when >>= fun r8 =>
  m_law_integer r7 r8 >>= fun r9 =>
  (if (!r9) = true then
  .ok false
  else
  m_DaySet__nth days rank >>= fun r10 =>
  m_law_nth_holds one rank r10 >>= fun r11 =>
  .ok r11)))

def m_law_named_holds (days : C_DaySet) (one : (List Nat) × (List Nat)) (when : Int) (rank : Int) : Mr Bool :=
  m_DaySet__next_from days when >>= fun r1 =>
  m_law_next one when >>= fun r2 =>
  m_law_same r1 r2 >>= fun r3 =>
  (if (!r3) = true then
  .ok false
  else
  m_DaySet__count_before days when >>= fun r4 =>
  m_law_count one when >>= fun r5 =>
  m_law_integer r4 r5 >>= fun r6 =>
  (if (!r6) = true then
  .ok false
  else
  m_DaySet__nth days rank >>= fun r7 =>
  m_law_nth_holds one rank r7 >>= fun r8 =>
  .ok r8))

def m_DaySet____bool__ (self : C_DaySet) : Mr Bool :=
  .ok ((self.lead.contains 49) || (self.cycle.contains 49))

def m_DaySet__first_gap (self : C_DaySet) : Mr (Option Int) :=
  catOk self.lead self.cycle >>= fun r1 =>
  (.ok (findX (self.lead ++ self.cycle) 48) : Mr Int) >>= fun at2 =>
  (if (decide (at2 < (0 : Int))) = true then
  .ok (none : Option Int)
  else
  .ok (some at2))

def m_DaySet__greatest (self : C_DaySet) : Mr (Option Int) :=
  (if ((!decide (self.cycle = [48])) || (decide (self.start = (0 : Int)))) = true then
  .ok (none : Option Int)
  else
  .ok (some (self.start - (1 : Int))))

def m_DaySet__settled_from (self : C_DaySet) : Mr (Option Int) :=
  (if (!decide (self.cycle = [49])) = true then
  .ok (none : Option Int)
  else
  .ok (some self.start))

def m_law_whole_holds (days : C_DaySet) (one : (List Nat) × (List Nat)) : Mr Bool :=
  catOk one.1 one.2 >>= fun r1 =>
  (.ok (findX (one.1 ++ one.2) 48) : Mr Int) >>= fun gap2 =>
  getO (some gap2) >>= fun r3 =>
  (if (decide (r3 < (0 : Int))) = true then
  .ok (.go (none : Option Int))
  else
  .ok (.go (some gap2))) >>= Jn.k fun (s4 : Option Int) =>
  (.ok (rfindA one.1 49) : Mr Int) >>= fun newest5 =>
  ((if (one.2.contains 49) = true then .ok true else getO (some newest5) >>= fun r6 => .ok (decide (r6 < (0 : Int)))) : Mr Bool) >>= fun r7 =>
  (if r7 = true then
  .ok (.go (none : Option Int))
  else
  .ok (.go (some newest5))) >>= Jn.k fun (s9 : Option Int) =>
  (.ok ((rfindA one.1 48) + (1 : Int)) : Mr Int) >>= fun since_then10 =>
  (if (one.2.contains 48) = true then
  .ok (.go (none : Option Int))
  else
  .ok (.go (some since_then10))) >>= Jn.k fun (s11 : Option Int) =>
  m_DaySet____bool__ days >>= fun r12 =>
  catOk one.1 one.2 >>= fun r13 =>
  m_law_truth r12 ((one.1 ++ one.2).contains 49) >>= fun r14 =>
  (if (!r14) = true then
  .ok false
  else
  m_DaySet__first_gap days >>= fun r15 =>
  m_law_same r15 s4 >>= fun r16 =>
  ((if (!r16) = true then .ok true else m_DaySet__greatest days >>= fun r17 => m_law_same r17 s9 >>= fun r18 => .ok (!r18)) : Mr Bool) >>= fun r19 =>
  (if r19 = true then
  .ok false
  else
  m_DaySet__settled_from days >>= fun r21 =>
  m_law_same r21 s11 >>= fun r22 =>
  .ok r22))

def m_law (script : List Int) : Mr Bool :=
  m_law_box script >>= fun r1 =>
  m_law_drawn r1 >>= fun r2 =>
  m_law_drawn r2.2 >>= fun r3 =>
  (.ok ([r2.1, r3.1] : List ((List Nat) × (List Nat))) : Mr (List ((List Nat) × (List Nat)))) >>= fun pairs4 =>
  (.ok ([] : List (List Int)) : Mr (List (List Int))) >>= fun asked5 =>
  forL pairs4 (r3.2, asked5) (fun (s6 : H_law_box × (List (List Int))) (x7 : (List Nat) × (List Nat)) =>
  mapS (fun (s11 : H_law_box) (x8 : Int) => sizeP x7.1 >>= fun r12 => m_law_number s11 x7 (x7.1.length : Int) >>= fun r13 => .ok (r13.1, r13.2)) (rngI (0 : Int) (4 : Int)) s6.1 >>= fun r14 =>
  growOk s6.2 >>= fun r18 =>
  mapS (fun (s21 : H_law_box) (x19 : Int) => m_law_number s21 x7 (((x7.1.count 49 : Nat) : Int)) >>= fun r22 => .ok (r22.1, r22.2)) (rngI (0 : Int) (4 : Int)) r14.2 >>= fun r23 =>
  growOk (s6.2 ++ [r14.1]) >>= fun r27 =>
  .ok (.go (r23.2, ((s6.2 ++ [r14.1]) ++ [r23.1])))) >>= Stp.k fun (s6 : H_law_box × (List (List Int))) =>
  m_law_made_hold s6.1 >>= fun r28 =>
  (if (!r28.1) = true then
  .ok false
  else
  getI pairs4 (0 : Int) >>= fun r29 =>
  getI pairs4 (0 : Int) >>= fun r30 =>
  m_DaySet____init__ () r29.1 r30.2 >>= Rz.k (fun r31 =>
  getI pairs4 (1 : Int) >>= fun r32 =>
  getI pairs4 (1 : Int) >>= fun r33 =>
  m_DaySet____init__ () r32.1 r33.2 >>= Rz.k (fun r34 =>
  (.ok ([r31, r34] : List C_DaySet) : Mr (List C_DaySet)) >>= fun sets35 =>
  forL (rngI (0 : Int) (5 : Int)) () (fun (s36 : Unit) (x37 : Int) =>
  (.ok (x37 % (4 : Int)) : Mr Int) >>= fun k38 =>
  forL (rngI (0 : Int) (2 : Int)) () (fun (s39 : Unit) (x40 : Int) =>
  getI s6.2 ((2 : Int) * x40) >>= fun r41 =>
  getI r41 k38 >>= fun r42 =>
  getI s6.2 (((2 : Int) * x40) + (1 : Int)) >>= fun r43 =>
  getI r43 k38 >>= fun r44 =>
  getI sets35 x40 >>= fun r45 =>
  getI pairs4 x40 >>= fun r46 =>
  m_law_day_holds r45 r46 r42 r44 >>= fun r47 =>
  (if (!r47) = true then
  .ok (.out (.out false))
  else
  ((if (decide ((2 : Int) < x37)) = true then getI sets35 x40 >>= fun r48 => getI pairs4 x40 >>= fun r49 => m_law_named_holds r48 r49 r42 r44 >>= fun r50 => .ok (!r50) else .ok false) : Mr Bool) >>= fun r51 =>
  (if r51 = true then
  .ok (.out (.out false))
  else
  getI sets35 x40 >>= fun r53 =>
  getI pairs4 x40 >>= fun r54 =>
  m_law_whole_holds r53 r54 >>= fun r55 =>
  (if (!r55) = true then
  .ok (.out (.out false))
  else
  .ok (.go ()))))) >>= Stp.k fun (s39 : Unit) =>
  .ok (.go ())) >>= Stp.k fun (s36 : Unit) =>
  .ok true) (fun _ _ => .error .stuck)) (fun _ _ => .error .stuck))

end K02

/-! the plain law of k02 -/
namespace K02
open TL
/-! ### loops -/
theorem post_while {τ ω : Type} {c : τ → Mr Bool} {f : τ → Mr (Stp τ ω)} (I : τ → Prop) {A : τ → Prop} {W : ω → Prop} (μ : τ → Nat) (h : ∀ s, I s → Post (c s) fun b => (b = false → A s) ∧ (b = true → Post (f s) (SQ (fun s' => I s' ∧ μ s' < μ s) A W))) :
    ∀ (n : Nat) (s : τ), I s → μ s < n → Post (whileL c f n s) (SQ A A W)
  | 0, s, _, hn => by omega
  | n + 1, s, hI, hn => by
    obtain ⟨b, e, h1, h2⟩ := h s hI
    unfold whileL
    rw [e]
    cases b with
    | false => exact post_ok (h1 rfl)
    | true =>
      obtain ⟨j, e2, q⟩ := h2 rfl
      dsimp only
      rw [e2]
      cases j with
      | go s' => exact post_while I μ h n s' q.1 (by have := q.2; omega)
      | cnt s' => exact post_while I μ h n s' q.1 (by have := q.2; omega)
      | brk s' => exact post_ok q
      | out w => exact post_ok q
theorem post_forK {α τ ω : Type} {xs0 : List α} {f : τ → α → Mr (Stp τ ω)} (I : Nat → τ → Prop) {A : τ → Prop} {W : ω → Prop} (fin : ∀ s, I xs0.length s → A s) : ∀ (xs : List α) (n : Nat) (s : τ), xs0.drop n = xs → n ≤ xs0.length → I n s → (∀ k s x, xs0[k]? = some x → I k s → Post (f s x) (SQ (I (k + 1)) A W)) → Post (forL xs s f) (SQ A A W)
  | [], n, s, e, hn, h0, _ => by
    have : xs0.length ≤ n := List.drop_eq_nil_iff.mp e
    have : n = xs0.length := by omega
    subst this
    exact post_ok (fin s h0)
  | x :: xs, n, s, e, hn, h0, h => by
    have hx : xs0[n]? = some x := by
      rw [← List.head?_drop, e]
      rfl
    have hlt : n < xs0.length := (List.getElem?_eq_some_iff.mp hx).1
    have hd : xs0.drop (n + 1) = xs := by
      rw [← List.tail_drop, e]
      rfl
    obtain ⟨j, ej, q⟩ := h n s x hx h0
    unfold forL
    rw [ej]
    cases j with
    | go s1 => exact post_forK I fin xs (n + 1) s1 hd (by omega) q h
    | cnt s1 => exact post_forK I fin xs (n + 1) s1 hd (by omega) q h
    | brk s1 => exact post_ok q
    | out w => exact post_ok q
theorem post_each {α τ ω : Type} {xs : List α} {s : τ} {f : τ → α → Mr (Stp τ ω)} (I : Nat → τ → Prop) {A : τ → Prop} {W : ω → Prop} (h0 : I 0 s) (h : ∀ k s x, xs[k]? = some x → I k s → Post (f s x) (SQ (I (k + 1)) A W)) (fin : ∀ s, I xs.length s → A s) : Post (forL xs s f) (SQ A A W) :=
  post_forK I fin xs 0 s rfl (Nat.zero_le _) h0 h
/-! ### divisors -/
structure DvI (n : Int) (s : Int × List Int × List Int) : Prop where
  k1 : 1 ≤ s.1
  kn : (s.1 - 1) * (s.1 - 1) ≤ n
  sp : s.2.1.Pairwise (· < ·)
  sm : ∀ d, d ∈ s.2.1 ↔ (1 ≤ d ∧ d < s.1 ∧ n % d = 0)
  lp : s.2.2.Pairwise (· > ·)
  lm : ∀ e, e ∈ s.2.2 ↔ ∃ d, 1 ≤ d ∧ d < s.1 ∧ n % d = 0 ∧ d * d ≠ n ∧ e = n / d
  sl : (s.2.1.length : Int) ≤ s.1
  ll : (s.2.2.length : Int) ≤ s.1
theorem pair_snoc {R : Int → Int → Prop} {l : List Int} {x : Int} (h : l.Pairwise R) (g : ∀ y ∈ l, R y x) : (l ++ [x]).Pairwise R := by
  rw [List.pairwise_append]
  exact ⟨h, List.pairwise_singleton _ _, fun y hy z hz => by
    rw [List.mem_singleton.mp hz]
    exact g y hy⟩
theorem sq_le {a b : Int} (h0 : 0 ≤ a) (h : a ≤ b) : a * a ≤ b * b := Int.mul_le_mul h h h0 (by omega)
theorem dvd_mul_ediv {n d : Int} (h : n % d = 0) : d * (n / d) = n := by
  have := Int.emod_add_mul_ediv n d
  omega
theorem ediv_gt {n d k : Int} (hd : 1 ≤ d) (hk : d < k) (hn : n % d = 0) (hk2 : n % k = 0) (hn0 : 1 ≤ n) : n / k < n / d := by
  have e1 := dvd_mul_ediv hn
  have e2 := dvd_mul_ediv hk2
  have p1 : 1 ≤ n / k := by
    by_cases c : 1 ≤ n / k
    · exact c
    · have : k * (n / k) ≤ k * 0 := Int.mul_le_mul_of_nonneg_left (by omega) (by omega)
      omega
  by_cases c : n / k < n / d
  · exact c
  · have h1 : d * (n / d) ≤ d * (n / k) := Int.mul_le_mul_of_nonneg_left (by omega) (by omega)
    have h2 : d * (n / k) < k * (n / k) := Int.mul_lt_mul_of_pos_right hk (by omega)
    omega
/-- all divisors, in order -/
def Divs (n : Int) (r : List Int) : Prop := r.Pairwise (· < ·) ∧ ∀ d, d ∈ r ↔ (1 ≤ d ∧ n % d = 0)
theorem divisors_ok {n : Int} (h1 : 1 ≤ n) (h2 : n ≤ 100000) : Post (m_divisors_of n) (Divs n) := by
  unfold m_divisors_of
  refine post_bindE rfl (post_bindE rfl (post_bindE rfl ?_))
  refine post_stp (A := fun s => DvI n s ∧ n < s.1 * s.1) (post_while (DvI n) (fun s => (n + 1 - s.1).toNat) (fun s hs => ?_) _ _ ⟨by decide, by show (0 : Int) * 0 ≤ n; omega, List.Pairwise.nil, fun d => by simp; omega, List.Pairwise.nil, fun e => by simp; omega, by decide, by decide⟩ (by show (n + 1 - 1).toNat < n.toNat + 2; omega)) fun s hs => ?_
  · obtain ⟨k1, kn, sp, sm, lp, lm, sl, ll⟩ := hs
    have kb : s.1 ≤ 100001 := by
      by_cases c : s.1 ≤ 100001
      · exact c
      · have := sq_le (show (0 : Int) ≤ 100001 by decide) (show (100001 : Int) ≤ s.1 - 1 by omega)
        omega
    refine post_bindE (mulP_ok (by omega) (by omega) (by omega) (by omega)) (post_ok ⟨fun hb => ?_, fun hb => ?_⟩)
    · have hb := of_decide_eq_false hb
      exact ⟨⟨k1, kn, sp, sm, lp, lm, sl, ll⟩, by omega⟩
    · have hb := of_decide_eq_true hb
      have kle : s.1 ≤ n := by
        have : s.1 * 1 ≤ s.1 * s.1 := Int.mul_le_mul_of_nonneg_left k1 (by omega)
        omega
      have kn' : (s.1 + 1 - 1) * (s.1 + 1 - 1) ≤ n := by
        have : s.1 + 1 - 1 = s.1 := by omega
        rw [this]
        exact hb
      refine post_bindE (modP_ok (by omega)) ?_
      refine post_jn (A := fun (q : List Int × List Int) => DvI n (s.1 + 1, q.1, q.2)) (post_if (fun hc => ?_) fun hc => post_ok ?_) fun q hq => post_bindE rfl (post_ok ⟨hq, ?_⟩)
      · have hc := of_decide_eq_true hc
        have sp' : (s.2.1 ++ [s.1]).Pairwise (· < ·) := pair_snoc sp fun y hy => ((sm y).mp hy).2.1
        have sm' : ∀ d, d ∈ s.2.1 ++ [s.1] ↔ (1 ≤ d ∧ d < s.1 + 1 ∧ n % d = 0) := fun d => by
          rw [List.mem_append, sm, List.mem_singleton]
          constructor
          · rintro (⟨a, b, c⟩ | rfl)
            · exact ⟨a, by omega, c⟩
            · exact ⟨k1, by omega, hc⟩
          · rintro ⟨a, b, c⟩
            by_cases hd : d < s.1
            · exact .inl ⟨a, hd, c⟩
            · exact .inr (by omega)
        have sl' : ((s.2.1 ++ [s.1]).length : Int) ≤ s.1 + 1 := by
          rw [List.length_append]
          simp
          omega
        refine post_bindE (growOk_ok (by omega)) (post_bindE (mulP_ok (by omega) (by omega) (by omega) (by omega)) (post_if (fun hd => ?_) fun hd => ?_))
        · have hd : s.1 * s.1 ≠ n := fun e => by
            rw [decide_eq_true e] at hd
            exact absurd hd (by decide)
          refine post_bindE (fdivP_ok (by omega) (by omega)) (post_bindE (growOk_ok (by omega)) (post_ok ⟨by show 1 ≤ s.1 + 1; omega, kn', sp', sm', ?_, fun e => ?_, sl', ?_⟩))
          · refine pair_snoc lp fun y hy => ?_
            obtain ⟨d, a, b, c, _, rfl⟩ := (lm y).mp hy
            exact ediv_gt a b c hc h1
          · show e ∈ s.2.2 ++ [n / s.1] ↔ _
            rw [List.mem_append, lm, List.mem_singleton]
            constructor
            · rintro (⟨d, a, b, c, c2, rfl⟩ | rfl)
              · exact ⟨d, a, by show d < s.1 + 1; omega, c, c2, rfl⟩
              · exact ⟨s.1, k1, by show s.1 < s.1 + 1; omega, hc, hd, rfl⟩
            · rintro ⟨d, a, b, c, c2, rfl⟩
              have b : d < s.1 + 1 := b
              by_cases hd2 : d < s.1
              · exact .inl ⟨d, a, hd2, c, c2, rfl⟩
              · have : d = s.1 := by omega
                subst this
                exact .inr rfl
          · show ((s.2.2 ++ [n / s.1]).length : Int) ≤ s.1 + 1
            rw [List.length_append]
            simp
            omega
        · have hd : s.1 * s.1 = n := by
            by_cases e : s.1 * s.1 = n
            · exact e
            · rw [decide_eq_false e] at hd
              exact absurd rfl hd
          refine post_ok ⟨by show 1 ≤ s.1 + 1; omega, kn', sp', sm', lp, fun e => ?_, sl', by show (s.2.2.length : Int) ≤ s.1 + 1; omega⟩
          show e ∈ s.2.2 ↔ _
          rw [lm]
          constructor
          · rintro ⟨d, a, b, c, c2, rfl⟩
            exact ⟨d, a, by show d < s.1 + 1; omega, c, c2, rfl⟩
          · rintro ⟨d, a, b, c, c2, rfl⟩
            have b : d < s.1 + 1 := b
            by_cases hd2 : d < s.1
            · exact ⟨d, a, hd2, c, c2, rfl⟩
            · have : d = s.1 := by omega
              subst this
              exact absurd hd c2
      · have hc : n % s.1 ≠ 0 := fun e => hc (decide_eq_true e)
        refine ⟨by show 1 ≤ s.1 + 1; omega, kn', sp, fun d => ?_, lp, fun e => ?_, by show (s.2.1.length : Int) ≤ s.1 + 1; omega, by show (s.2.2.length : Int) ≤ s.1 + 1; omega⟩
        · show d ∈ s.2.1 ↔ (1 ≤ d ∧ d < s.1 + 1 ∧ n % d = 0)
          rw [sm]
          constructor
          · rintro ⟨a, b, c⟩
            exact ⟨a, by omega, c⟩
          · rintro ⟨a, b, c⟩
            refine ⟨a, ?_, c⟩
            by_cases hd2 : d < s.1
            · exact hd2
            · have : d = s.1 := by omega
              subst this
              exact absurd c hc
        · show e ∈ s.2.2 ↔ _
          rw [lm]
          constructor
          · rintro ⟨d, a, b, c, c2, rfl⟩
            exact ⟨d, a, by show d < s.1 + 1; omega, c, c2, rfl⟩
          · rintro ⟨d, a, b, c, c2, rfl⟩
            have b : d < s.1 + 1 := b
            refine ⟨d, a, ?_, c, c2, rfl⟩
            by_cases hd2 : d < s.1
            · exact hd2
            · have : d = s.1 := by omega
              subst this
              exact absurd c hc
      · show (n + 1 - (s.1 + 1)).toNat < (n + 1 - s.1).toNat
        omega
  · obtain ⟨⟨k1, kn, sp, sm, lp, lm, sl, ll⟩, hk⟩ := hs
    have kb : s.1 ≤ 100001 := by
      by_cases c : s.1 ≤ 100001
      · exact c
      · have := sq_le (show (0 : Int) ≤ 100001 by decide) (show (100001 : Int) ≤ s.1 - 1 by omega)
        omega
    refine post_bindE (catOk_ok (by rw [List.length_reverse]; omega)) (post_ok ⟨?_, fun d => ?_⟩)
    · rw [List.pairwise_append]
      refine ⟨sp, List.pairwise_reverse.mpr lp, fun d hd e he => ?_⟩
      obtain ⟨a1, b1, c1⟩ := (sm d).mp hd
      obtain ⟨d', a, b, c, c2, rfl⟩ := (lm e).mp (List.mem_reverse.mp he)
      have e1 := dvd_mul_ediv c
      by_cases hlt : d < n / d'
      · exact hlt
      · have l1 : n / d' ≤ s.1 - 1 := by omega
        have l0 : 0 ≤ n / d' := Int.ediv_nonneg (by omega) (by omega)
        have m1 : d' * (n / d') ≤ (s.1 - 1) * (n / d') := Int.mul_le_mul_of_nonneg_right (by omega) l0
        have m2 : (s.1 - 1) * (n / d') ≤ (s.1 - 1) * (s.1 - 1) := Int.mul_le_mul_of_nonneg_left l1 (by omega)
        have q : n / d' = s.1 - 1 := by
          by_cases hq : n / d' = s.1 - 1
          · exact hq
          · have : (s.1 - 1) * (n / d') < (s.1 - 1) * (s.1 - 1) := Int.mul_lt_mul_of_pos_left (by omega) (by omega)
            omega
        have q2 : d' = s.1 - 1 := by
          by_cases hq : d' = s.1 - 1
          · exact hq
          · have : d' * (n / d') < (s.1 - 1) * (n / d') := Int.mul_lt_mul_of_pos_right (by omega) (by omega)
            omega
        rw [q] at e1
        rw [← q2] at e1
        exact absurd e1 c2
    · rw [List.mem_append, List.mem_reverse, sm, lm]
      constructor
      · rintro (⟨a, b, c⟩ | ⟨d', a, b, c, c2, rfl⟩)
        · exact ⟨a, c⟩
        · have e1 := dvd_mul_ediv c
          refine ⟨?_, ?_⟩
          · by_cases hq : 1 ≤ n / d'
            · exact hq
            · have : d' * (n / d') ≤ d' * 0 := Int.mul_le_mul_of_nonneg_left (by omega) (by omega)
              omega
          · exact Int.emod_eq_zero_of_dvd ⟨d', by rw [Int.mul_comm]; exact e1.symm⟩
      · rintro ⟨a, c⟩
        have e1 := dvd_mul_ediv c
        by_cases hd : d < s.1
        · exact .inl ⟨a, hd, c⟩
        · right
          have q1 : 1 ≤ n / d := by
            by_cases hq : 1 ≤ n / d
            · exact hq
            · have : d * (n / d) ≤ d * 0 := Int.mul_le_mul_of_nonneg_left (by omega) (by omega)
              omega
          have q2 : n / d < s.1 := by
            by_cases hq : n / d < s.1
            · exact hq
            · have m1 : s.1 * s.1 ≤ d * (n / d) := Int.mul_le_mul (by omega) (by omega) (by omega) (by omega)
              omega
          have e2 : n % (n / d) = 0 := Int.emod_eq_zero_of_dvd ⟨d, by rw [Int.mul_comm]; exact e1.symm⟩
          have e3 : n / (n / d) = d := by
            conv => lhs; arg 1; rw [← e1]
            exact Int.mul_ediv_cancel _ (by omega)
          refine ⟨n / d, q1, q2, e2, fun e => ?_, e3.symm⟩
          have : n / d * (n / d) < d * (n / d) := Int.mul_lt_mul_of_pos_right (by omega) (by omega)
          omega
/-! ### normal forms -/
open Sq
theorem post_getI' {α : Type} {xs : List α} {i : Int} {n : Nat} (e : i = (n : Int)) (h : n < xs.length) : ∃ x, xs[n]? = some x ∧ getI xs i = .ok x := by
  subst e
  obtain ⟨x, h1, h2⟩ := getI_of (xs := xs) (i := (n : Int)) (by omega) (by omega)
  rw [Int.toNat_natCast] at h1
  exact ⟨x, h1, h2⟩
theorem row_get {l c : List Nat} {i : Nat} (hi : i < l.length + 2 * c.length) : ((l ++ c) ++ c)[i]? = sq l c i := by
  by_cases h : i < l.length
  · rw [sq_lt h, List.append_assoc, List.getElem?_append_left h]
  · rw [sq_ge (by omega), List.append_assoc, List.getElem?_append_right (by omega)]
    by_cases h2 : i - l.length < c.length
    · rw [List.getElem?_append_left h2, Nat.mod_eq_of_lt h2]
    · rw [List.getElem?_append_right (by omega), Nat.mod_eq_sub_mod (by omega), Nat.mod_eq_of_lt (by omega)]
theorem some_inj' {α : Type} {x y : α} {o p : Option α} (h1 : o = some x) (h2 : p = some y) : x = y ↔ o = p := by
  rw [h1, h2]
  exact ⟨fun e => congrArg some e, fun e => Option.some.inj e⟩
theorem dec_single {x y : Nat} : (decide ([x] = [y])) = true ↔ x = y := by
  rw [decide_eq_true_iff]
  exact ⟨fun e => List.head_eq_of_cons_eq e, fun e => by rw [e]⟩
theorem normal_ok {l c : List Nat} (hc : c ≠ []) (hl : l.length ≤ 100000) (hcl : c.length ≤ 100000) : Post (m_law_normal l c) fun r => NF (sq l c) r.1 r.2 := by
  have c0 := List.length_pos_iff.mpr hc
  unfold m_law_normal
  refine post_bindE (sizeP_ok (by omega)) (post_bindE rfl (post_bindE (rngP_pos (by decide) (by decide) (by omega) (by omega)) ?_))
  refine post_stp (A := fun (p : Int) => ∃ q : Nat, p = (q : Int) ∧ q ≤ c.length ∧ Low (sq l c) l.length q) (post_rng (fun k s => s = (c.length : Int) ∧ ∀ q : Nat, 1 ≤ q → (q : Int) < k → ¬ Per (sq l c) l.length q) (by omega) ⟨rfl, fun q q1 q2 => by omega⟩ (fun k s k1 k2 hs => ?_) (fun s hs => ?_)) fun p hp => ?_
  · obtain ⟨q, rfl⟩ := Int.eq_ofNat_of_zero_le (by omega : 0 ≤ k)
    have e1 : cut c (some (q : Int)) none = c.drop q := cut_from (by omega)
    have e2 : cut c none (some (q : Int)) = c.take q := cut_to (by omega)
    have rp := rot_per (l := l) (c := c) (x := q) (by omega) c0
    refine post_bindE (sizeP_ok (by omega)) (post_bindE (sizeP_ok (by omega)) ?_)
    rw [e1, e2]
    refine post_bindE (catOk_ok (by rw [List.length_drop, List.length_take]; omega)) (post_if (fun hd => ?_) fun hd => ?_)
    · have hd := rp.mp (of_decide_eq_true hd)
      refine post_ok ⟨q, rfl, by omega, by omega, hd, fun q' p1 p2 => ?_⟩
      by_cases hq : q ≤ q'
      · exact hq
      · exact absurd p2 (hs.2 q' p1 (by omega))
    · refine post_ok ⟨hs.1, fun q' p1 p2 p3 => ?_⟩
      by_cases hq : q' < q
      · exact hs.2 q' p1 (by omega) p3
      · have : q' = q := by omega
        subst this
        exact hd (decide_eq_true (rp.mpr p3))
  · obtain ⟨rfl, h⟩ := hs
    refine ⟨c.length, rfl, Nat.le_refl _, c0, sq_per, fun q' p1 p2 => ?_⟩
    by_cases hq : c.length ≤ q'
    · exact hq
    · exact absurd p2 (h q' p1 (by omega))
  · obtain ⟨p, rfl, pl, low⟩ := hp
    have rl : ((l ++ c) ++ c).length = l.length + 2 * c.length := by
      rw [List.length_append, List.length_append]
      omega
    have p1 := low.pos
    refine post_bindE (catOk_ok (by omega)) (post_bindE (catOk_ok (by rw [List.length_append]; omega)) (post_bindE rfl (post_bindE (sizeP_ok (by omega)) (post_bindE rfl ?_))))
    refine post_stp (A := fun (s : Int) => ∃ n : Nat, s = (n : Int) ∧ n ≤ l.length ∧ Per (sq l c) n p ∧ (n = 0 ∨ sq l c (n - 1 + p) ≠ sq l c (n - 1))) (post_while (fun (s : Int) => ∃ n : Nat, s = (n : Int) ∧ n ≤ l.length ∧ Per (sq l c) n p) (fun s => s.toNat) (fun s hs => ?_) _ _ ⟨l.length, rfl, Nat.le_refl _, low.per⟩ (by show ((l.length : Nat) : Int).toNat < _; omega)) fun s hs => ?_
    · obtain ⟨n, rfl, nl, hp⟩ := hs
      by_cases h0 : n = 0
      · subst h0
        refine post_eq (a := false) rfl ⟨fun _ => ⟨0, rfl, nl, hp, .inl rfl⟩, fun h => by cases h⟩
      · obtain ⟨x, x1, x2⟩ := post_getI' (xs := (l ++ c) ++ c) (i := (n : Int) - 1) (n := n - 1) (by omega) (by omega)
        obtain ⟨y, y1, y2⟩ := post_getI' (xs := (l ++ c) ++ c) (i := (n : Int) - 1 + (p : Int)) (n := n - 1 + p) (by omega) (by omega)
        rw [row_get (by omega)] at x1 y1
        have q := some_inj' x1 y1
        refine post_bind (Q := fun b => b = decide ([x] = [y])) ?_ fun b hb => post_ok ?_
        · rw [if_pos (decide_eq_true (show (0 : Int) < (n : Int) by omega))]
          exact post_bindE (sizeP_ok (by omega)) (post_bindE x2 (post_bindE (sizeP_ok (by omega)) (post_bindE y2 (post_ok rfl))))
        · subst hb
          refine ⟨fun hf => ⟨n, rfl, nl, hp, .inr fun e => ?_⟩, fun ht => post_bindE rfl (post_ok ⟨⟨n - 1, by show (n : Int) - 1 = _; omega, by omega, fun t ht2 => ?_⟩, by show ((n : Int) - 1).toNat < (n : Int).toNat; omega⟩)⟩
          · rw [dec_single.mpr (q.mpr e.symm)] at hf
            cases hf
          · by_cases hn : n ≤ t
            · exact hp t hn
            · have : t = n - 1 := by omega
              subst this
              exact (q.mp (dec_single.mp ht)).symm
    · obtain ⟨n, rfl, nl, hp, hf⟩ := hs
      refine post_bindE (sizeP_ok (by omega)) (post_bindE (sizeP_ok (by omega)) (post_ok ?_))
      have e1 : cut ((l ++ c) ++ c) none (some (n : Int)) = ((l ++ c) ++ c).take n := cut_to (by omega)
      have e2 : cut ((l ++ c) ++ c) (some (n : Int)) (some ((n : Int) + (p : Int))) = (((l ++ c) ++ c).drop n).take p := by
        unfold cut sIxQ
        simp only [if_neg (show ¬ (n : Int) < 0 by omega), if_neg (show ¬ (n : Int) + (p : Int) < 0 by omega)]
        have a1 : min (n : Int).toNat ((l ++ c) ++ c).length = n := by omega
        have a2 : min ((n : Int) + (p : Int)).toNat ((l ++ c) ++ c).length = n + p := by omega
        rw [a1, a2, Nat.add_sub_cancel_left]
      show NF (sq l c) (cut ((l ++ c) ++ c) none (some (n : Int))) (cut ((l ++ c) ++ c) (some (n : Int)) (some ((n : Int) + (p : Int))))
      rw [e1, e2]
      refine NF.of (low.can nl hp hf) (by rw [List.length_take]; omega) (by rw [List.length_take, List.length_drop]; omega) (fun i hi => ?_) fun i hi => ?_
      · rw [List.getElem?_take, if_pos hi, row_get (by omega)]
      · rw [List.getElem?_take, if_pos hi, List.getElem?_drop, row_get (by omega)]
theorem repL_nat {α : Type} {xs : List α} {k : Nat} : repL xs (k : Int) = (List.replicate k xs).flatten := by
  unfold repL
  rw [Int.toNat_natCast]
theorem repOk_nat {α : Type} {xs : List α} {k : Nat} (h : k < 2 ^ 62) (h2 : xs.length * k ≤ 16777216) : repOk xs (k : Int) = .ok () := if_pos ⟨by omega, by omega, by rw [Int.toNat_natCast]; exact h2⟩
theorem least_ok {l c : List (List Nat)} (hc : c ≠ []) (hcl : c.length ≤ 100000) (hT : ∀ y ∈ c, okT y = true) : Post (m_least_period c) fun p => ∃ q : Nat, p = (q : Int) ∧ q ≤ c.length ∧ Low (sq l c) l.length q := by
  have c0 := List.length_pos_iff.mpr hc
  obtain ⟨p0, low⟩ := low_ex (f := sq l c) (n := l.length) c.length c0 sq_per
  have pd := low.le c0
  have pl := Nat.le_of_dvd c0 pd
  have p1 := low.pos
  unfold m_least_period
  refine post_bindE rfl (post_bind (divisors_ok (by omega) (by omega)) fun r hr => ?_)
  obtain ⟨sr, mr⟩ := hr
  have pm : (p0 : Int) ∈ r := (mr _).mpr ⟨by omega, by
    obtain ⟨k, e⟩ := pd
    rw [e, Int.natCast_mul]
    exact Int.mul_emod_right _ _⟩
  obtain ⟨j, hj, ej⟩ := List.getElem_of_mem pm
  refine post_stp (A := fun _ => False) (post_each (fun k _ => ∀ i d, i < k → r[i]? = some d → ¬ Per (sq l c) l.length d.toNat) (fun i d h => by omega) (fun k s d hd hs => ?_) fun s hs => ?_) fun s hs => hs.elim
  · obtain ⟨d1, dn⟩ := (mr d).mp (List.mem_of_getElem? hd)
    obtain ⟨q, rfl⟩ := Int.eq_ofNat_of_zero_le (by omega : 0 ≤ d)
    have qd : q ∣ c.length := Int.natCast_dvd_natCast.mp (Int.dvd_of_emod_eq_zero dn)
    have ql := Nat.le_of_dvd c0 qd
    have e1 : cut c none (some (q : Int)) = c.take q := cut_to (by omega)
    have e2 : ((c.length : Nat) : Int) / (q : Int) = ((c.length / q : Nat) : Int) := (Int.natCast_ediv _ _).symm
    have tot : c.length / q * q = c.length := Nat.div_mul_cancel qd
    have tl : (c.take q).length = q := by rw [List.length_take]; omega
    have fl : (List.replicate (c.length / q) (c.take q)).flatten.length = c.length := by rw [flat_len, tl, tot]
    refine post_bindE (fdivP_ok (by omega) (by omega)) ?_
    rw [e1, e2, repL_nat]
    have kb : c.length / q ≤ c.length := Nat.div_le_self _ _
    refine post_bindE (repOk_nat (Nat.lt_of_le_of_lt kb (by omega)) (by rw [tl, Nat.mul_comm, tot]; omega)) (post_bindE (wellP_ok ?_) ?_)
    · refine Bool.and_eq_true_iff.mpr ⟨List.all_eq_true.mpr hT, List.all_eq_true.mpr fun y hy => hT y ?_⟩
      obtain ⟨t, ht, hy⟩ := List.mem_flatten.mp hy
      rw [List.eq_of_mem_replicate ht] at hy
      exact List.mem_of_mem_take hy
    · have rp := rep_per (l := l) (c := c) qd c0
      refine post_if (fun he => ?_) fun he => post_ok fun i d hi hd2 => ?_
      · have hp := rp.mp (eq_of_beq he).symm
        have ple := low.low q (by omega) hp
        have : p0 = q := by
          by_cases hjk : j < k
          · exact absurd low.per (hs j (p0 : Int) hjk (by rw [List.getElem?_eq_getElem hj, ej]))
          · by_cases hkj : k < j
            · have hk := (List.getElem?_eq_some_iff.mp hd)
              have := List.pairwise_iff_getElem.mp sr k j hk.1 hj hkj
              rw [ej, hk.2] at this
              omega
            · have : j = k := by omega
              subst this
              rw [List.getElem?_eq_getElem hj, ej] at hd
              injection hd with hd
              omega
        subst this
        exact post_ok ⟨p0, rfl, by omega, low⟩
      · by_cases hik : i < k
        · exact hs i d hik hd2
        · have : i = k := by omega
          subst this
          rw [hd] at hd2
          injection hd2 with hd2
          subst hd2
          rw [Int.toNat_natCast]
          exact fun hp => he (beq_iff_eq.mpr (rp.mpr hp).symm)
  · exact hs j (p0 : Int) hj (by rw [List.getElem?_eq_getElem hj, ej]) (by rw [Int.toNat_natCast]; exact low.per)
theorem form_ok {l c : List (List Nat)} (hc : c ≠ []) (hl : l.length ≤ 100000) (hcl : c.length ≤ 100000) (hT : ∀ y ∈ c, okT y = true) : Post (m_normal_form l c) fun r => NF (sq l c) r.1 r.2 := by
  have c0 := List.length_pos_iff.mpr hc
  unfold m_normal_form
  refine post_bind (least_ok (l := l) hc hcl hT) fun p hp => ?_
  obtain ⟨p, rfl, pl, low⟩ := hp
  have p1 := low.pos
  refine post_bindE rfl ?_
  have at_ : ∀ j, j < p → c[j]? = sq l c (l.length + j) := fun j hj => by
    have : l.length + j - l.length = j := by omega
    rw [sq_ge (by omega), this, Nat.mod_eq_of_lt (by omega)]
  refine post_stp (A := fun (s : Int) => ∃ n : Nat, s = (n : Int) ∧ n ≤ l.length ∧ Per (sq l c) n p ∧ (n = 0 ∨ sq l c (n - 1 + p) ≠ sq l c (n - 1))) (post_while (fun (s : Int) => ∃ n : Nat, s = (n : Int) ∧ n ≤ l.length ∧ Per (sq l c) n p) (fun s => s.toNat) (fun s hs => ?_) _ _ ⟨l.length, rfl, Nat.le_refl _, low.per⟩ (by show ((l.length : Nat) : Int).toNat < _; omega)) fun s hs => ?_
  · obtain ⟨n, rfl, nl, hp⟩ := hs
    by_cases h0 : n = 0
    · subst h0
      refine post_eq (a := false) rfl ⟨fun _ => ⟨0, rfl, nl, hp, .inl rfl⟩, fun h => by cases h⟩
    · obtain ⟨x, x1, x2⟩ := getI_of (xs := l) (i := (n : Int) - 1) (by omega) (by omega)
      have e0 : ((n : Int) - 1).toNat = n - 1 := by omega
      rw [e0] at x1
      obtain ⟨j, j1, j2, j3⟩ := back hp p1 nl (show n ≤ n - 1 + p by omega)
      obtain ⟨y, y1, y2⟩ := getI_of (xs := c) (i := (j : Int)) (by omega) (by omega)
      rw [Int.toNat_natCast] at y1
      have e1 : ((n : Int) - 1 - (l.length : Int)) % (p : Int) = (j : Int) := by
        rw [← j1]
        have : ((n - 1 + p : Nat) : Int) - (l.length : Int) = (n : Int) - 1 - (l.length : Int) + (p : Int) := by omega
        rw [this, Int.add_emod_right]
      have q : x = y ↔ sq l c (n - 1) = sq l c (n - 1 + p) := by
        refine some_inj' ?_ ?_
        · rw [sq_lt (by omega)]
          exact x1
        · rw [← j3, ← at_ j j2]
          exact y1
      refine post_bind (Q := fun b => b = decide (x = y)) ?_ fun b hb => post_ok ?_
      · rw [if_pos (decide_eq_true (show (0 : Int) < (n : Int) by omega))]
        refine post_bindE x2 (post_bindE (modP_ok (by omega)) ?_)
        rw [e1]
        exact post_bindE y2 (post_ok rfl)
      · subst hb
        refine ⟨fun hf => ⟨n, rfl, nl, hp, .inr fun e => of_decide_eq_false hf (q.mpr e.symm)⟩, fun ht => post_ok ⟨⟨n - 1, by show (n : Int) - 1 = _; omega, by omega, fun t ht2 => ?_⟩, by show ((n : Int) - 1).toNat < (n : Int).toNat; omega⟩⟩
        by_cases hn : n ≤ t
        · exact hp t hn
        · have : t = n - 1 := by omega
          subst this
          exact (q.mp (of_decide_eq_true ht)).symm
  · obtain ⟨n, rfl, nl, hp, hf⟩ := hs
    obtain ⟨j, j1, j2, j3⟩ := back hp p1 nl (Nat.le_refl n)
    refine post_bindE (modP_ok (by omega)) ?_
    rw [j1]
    have e1 : cut l none (some (n : Int)) = l.take n := cut_to (by omega)
    have e2 : cut c (some (j : Int)) (some (p : Int)) = (c.take p).drop j := by
      unfold cut sIxQ
      simp only [if_neg (show ¬ (j : Int) < 0 by omega), if_neg (show ¬ (p : Int) < 0 by omega)]
      have a1 : min (j : Int).toNat c.length = j := by omega
      have a2 : min (p : Int).toNat c.length = p := by omega
      rw [a1, a2, List.drop_take]
    have e3 : cut c none (some (j : Int)) = (c.take p).take j := by
      rw [List.take_take, Nat.min_eq_left (by omega)]
      exact cut_to (by omega)
    have tl : (c.take p).length = p := by rw [List.length_take]; omega
    rw [e1, e2, e3]
    refine post_bindE (catOk_ok (by rw [List.length_drop, List.length_take (i := j), tl]; omega)) (post_ok ?_)
    refine NF.of (low.can nl hp hf) (by rw [List.length_take]; omega) (by rw [List.length_append, List.length_drop, List.length_take (i := j), tl]; omega) (fun i hi => ?_) fun i hi => ?_
    · rw [List.getElem?_take, if_pos hi, sq_lt (by omega)]
    · show ((c.take p).drop j ++ (c.take p).take j)[i]? = _
      rw [rot_get (by omega) (by omega), tl, List.getElem?_take, if_pos (Nat.mod_lt _ (by omega)), at_ _ (Nat.mod_lt _ (by omega))]
      obtain ⟨k, k1, k2, k3⟩ := back hp p1 nl (show n ≤ n + i by omega)
      rw [← k3]
      congr 2
      have : ((n + i : Nat) : Int) - (l.length : Int) = ((n : Int) - (l.length : Int)) + (i : Int) := by omega
      rw [this, Int.add_emod, j1] at k1
      have : ((i + j : Nat) : Int) % (p : Int) = (k : Int) := by
        rw [← k1, Int.natCast_add, Int.add_comm, Int.add_emod, ← Int.natCast_emod j, Nat.mod_eq_of_lt j2]
      omega
/-! ### signs -/
def Bits (l : List Nat) : Prop := ∀ c ∈ l, c = 48 ∨ c = 49
instance (l : List Nat) : Decidable (Bits l) := inferInstanceAs (Decidable (∀ c ∈ l, _))
theorem Bits.app {l m : List Nat} (h : Bits l) (g : Bits m) : Bits (l ++ m) := fun c hc => (List.mem_append.mp hc).elim (h c) (g c)
theorem Bits.sub {l m : List Nat} (h : Bits l) (g : ∀ x ∈ m, x ∈ l) : Bits m := fun c hc => h c (g c hc)
theorem bits_one {x : Nat} (h : x = 48 ∨ x = 49) : Bits [x] := fun c hc => by
  rw [List.mem_singleton.mp hc]
  exact h
theorem mem_cut {α : Type} {l : List α} {a b : Option Int} {x : α} (h : x ∈ cut l a b) : x ∈ l := List.mem_of_mem_drop (List.mem_of_mem_take h)
theorem Bits.cut {l : List Nat} (h : Bits l) (a b : Option Int) : Bits (TL.cut l a b) := h.sub fun _ => mem_cut
theorem Bits.rep {l : List Nat} (h : Bits l) (n : Int) : Bits (repL l n) := h.sub fun x hx => by
  unfold repL at hx
  obtain ⟨t, ht, hy⟩ := List.mem_flatten.mp hx
  rw [List.eq_of_mem_replicate ht] at hy
  exact hy
theorem bits_count {l : List Nat} : l.count 48 + l.count 49 ≤ l.length ∧ (l.count 48 + l.count 49 = l.length ↔ Bits l) := by
  induction l with
  | nil => exact ⟨Nat.le_refl _, fun _ c hc => (by cases hc), fun _ => rfl⟩
  | cons x l ih =>
    have hb : Bits (x :: l) ↔ (x = 48 ∨ x = 49) ∧ Bits l := ⟨fun h => ⟨h x (List.mem_cons_self ..), fun c hc => h c (List.mem_cons_of_mem _ hc)⟩, fun h c hc => by
      rcases List.mem_cons.mp hc with rfl | hc
      · exact h.1
      · exact h.2 c hc⟩
    rw [hb, ← ih.2, List.count_cons, List.count_cons, List.length_cons]
    by_cases h1 : x = 48
    · subst h1
      simp
      have := ih.1
      omega
    · by_cases h2 : x = 49
      · subst h2
        simp
        have := ih.1
        omega
      · simp [h1, h2]
        have := ih.1
        omega
theorem marks_ok {l : List Nat} (h : l.length ≤ 16777216) : m_only_marks l = .ok (decide (Bits l)) := by
  unfold m_only_marks
  rw [sizeP_ok h, ok_bind]
  congr 1
  have := (bits_count (l := l)).2
  by_cases hb : Bits l
  · have := this.mpr hb
    rw [decide_eq_true hb, decide_eq_true (by omega)]
  · have : ¬ (l.count 48 + l.count 49 = l.length) := fun e => hb (this.mp e)
    rw [decide_eq_false hb, decide_eq_false (by omega)]
theorem join_one (l : List Nat) : joinX [] (l.map fun c => [c]) = l := by
  have g : ∀ m : List Nat, ((m.map fun c => [c]).map fun q => ([] : List Nat) ++ q).flatten = m := fun m => by
    induction m with
    | nil => rfl
    | cons x m ih => 
      rw [List.map_cons, List.map_cons, List.flatten_cons, ih]
      rfl
  cases l with
  | nil => rfl
  | cons x l =>
    show [x] ++ ((l.map fun c => [c]).map fun q => ([] : List Nat) ++ q).flatten = _
    rw [g]
    rfl
theorem joinOk_one {l : List Nat} (h : l.length ≤ 16777216) : joinOk [] (l.map fun c => [c]) = .ok () := by
  unfold joinOk
  rw [if_pos]
  have : (((l.map fun c => [c]).map fun x => x.length).sum) = l.length := by
    rw [List.map_map]
    induction l with
    | nil => rfl
    | cons x l ih =>
      rw [List.map_cons, List.sum_cons, ih (by rw [List.length_cons] at h; omega), List.length_cons]
      show 1 + l.length = _
      omega
  rw [this]
  simpa using h
/-! ### the draws -/
def BoxI (b : H_law_box) : Prop := 0 ≤ b.at_
theorem box_ok (ns : List Int) : Post (m_law_box ns) BoxI := by
  unfold m_law_box
  refine post_bindE rfl (post_bindE rfl ?_)
  refine post_stp (A := fun _ => True) (post_forI trivial fun s x _ _ => post_bindE rfl (post_ok trivial)) fun s _ => post_ok ?_
  exact Int.le_refl 0
theorem take_ok {b : H_law_box} {n : Int} (h : BoxI b) (h1 : 0 < n) (h2 : n < 2 ^ 62) : Post (m_law_take b n) fun r => (0 ≤ r.1 ∧ r.1 < n) ∧ BoxI r.2 := by
  have h : 0 ≤ b.at_ := h
  unfold m_law_take
  refine post_jn (A := BoxI) (post_if (fun hc => ?_) fun _ => post_ok h) fun s hs => ?_
  · have hc := Bool.and_eq_true_iff.mp hc
    have h3 := of_decide_eq_true hc.2
    refine post_bind (post_getI h h3) fun r _ => post_if (fun _ => post_ok ?_) fun _ => post_ok ?_
    · show 0 ≤ b.at_ + 1
      omega
    · show 0 ≤ b.at_ + 1
      omega
  · refine post_if (fun _ => ?_) fun _ => ?_
    · exact post_bindE (modP_ok h1) (post_bindE (fdivP_ok h1 h2) (post_ok ⟨⟨Int.emod_nonneg _ (by omega), Int.emod_lt_of_pos _ h1⟩, hs⟩))
    · refine post_bindE rfl (post_bindE (modP_ok h1) (post_ok ⟨⟨Int.emod_nonneg _ (by omega), Int.emod_lt_of_pos _ h1⟩, hs⟩))
theorem getL_mem {α : Type} {l : List α} {i : Int} (h0 : 0 ≤ i) (h : i < l.length) : Post (getI l i) fun x => x ∈ l := post_mono (post_getI h0 h) fun x e => List.mem_of_getElem? e
theorem bits_of {ys : List (List Nat)} (h : ∀ y ∈ ys, y = [48] ∨ y = [49]) : ∃ l : List Nat, ys = l.map (fun c => [c]) ∧ Bits l := by
  induction ys with
  | nil => exact ⟨[], rfl, fun c hc => (by cases hc)⟩
  | cons y ys ih =>
    obtain ⟨l, rfl, hb⟩ := ih fun z hz => h z (List.mem_cons_of_mem _ hz)
    rcases h y (List.mem_cons_self ..) with rfl | rfl
    · exact ⟨48 :: l, rfl, fun c hc => (List.mem_cons.mp hc).elim (fun e => .inl e) (hb c)⟩
    · exact ⟨49 :: l, rfl, fun c hc => (List.mem_cons.mp hc).elim (fun e => .inr e) (hb c)⟩
theorem bits_ok {b : H_law_box} {n : Int} (h : BoxI b) (h0 : 0 ≤ n) (h1 : n ≤ 100000) : Post (m_law_bits b n) fun r => (Bits r.1 ∧ (r.1.length : Int) = n) ∧ BoxI r.2 := by
  unfold m_law_bits
  refine post_bindE (rngP_pos (by decide) (by decide) (by omega) (by omega)) (post_bindE (sizeP_ok (by rw [rngI_len]; omega)) ?_)
  refine post_bind (post_mapS (I := BoxI) (B := fun y => y = [48] ∨ y = [49]) h fun s x _ hs => ?_) fun r q => ?_
  · refine post_bind (take_ok hs (by decide) (by decide)) fun r q => post_bindE rfl ?_
    refine post_bind (getL_mem q.1.1 q.1.2) fun y hy => post_ok ⟨?_, q.2⟩
    simp only [List.mem_cons, List.not_mem_nil, or_false] at hy
    rcases hy with rfl | rfl
    · exact .inl rfl
    · exact .inr rfl
  · obtain ⟨ys, b2⟩ := r
    obtain ⟨q1, q2, q3⟩ := q
    obtain ⟨l, rfl, hb⟩ := bits_of q2
    have hl : l.length = n.toNat := by
      have : (l.map fun c => [c]).length = (rngI 0 n).length := q1
      rw [List.length_map, rngI_len] at this
      omega
    refine post_bindE (joinOk_one (by omega)) (post_ok ?_)
    show (Bits (joinX [] (l.map fun c => [c])) ∧ ((joinX [] (l.map fun c => [c])).length : Int) = n) ∧ _
    rw [join_one]
    exact ⟨⟨hb, by omega⟩, q3⟩
theorem cut_len {α : Type} {l : List α} (a b : Option Int) : (cut l a b).length ≤ l.length := by
  unfold cut
  rw [List.length_take, List.length_drop]
  omega
structure PO (m n : Nat) (p : List Nat × List Nat) : Prop where
  b1 : Bits p.1
  b2 : Bits p.2
  n0 : 1 ≤ p.2.length
  l1 : p.1.length ≤ m
  l2 : p.2.length ≤ n
theorem PO.mono {m n m' n' : Nat} {p : List Nat × List Nat} (h : PO m n p) (h1 : m ≤ m') (h2 : n ≤ n') : PO m' n' p := ⟨h.b1, h.b2, h.n0, Nat.le_trans h.l1 h1, Nat.le_trans h.l2 h2⟩
theorem repOk_ok {α : Type} {xs : List α} {k : Int} (h0 : 0 ≤ k) (h : k < 2 ^ 62) (h2 : xs.length * k.toNat ≤ 16777216) : repOk xs k = .ok () := if_pos ⟨by omega, by omega, h2⟩
theorem mul_le' {a b c d : Nat} (h : a ≤ c) (g : b ≤ d) : a * b ≤ c * d := Nat.mul_le_mul h g
theorem cut_mid {α : Type} {l : List α} {a b : Int} (h0 : 0 ≤ a) (h1 : a ≤ b) (h2 : b ≤ l.length) : (cut l (some a) (some b)).length = (b - a).toNat := by
  unfold cut sIxQ
  simp only [if_neg (show ¬ a < 0 by omega), if_neg (show ¬ b < 0 by omega)]
  rw [List.length_take, List.length_drop]
  omega
theorem rep_one {x : Nat} {k : Int} : (repL [x] k).length = k.toNat := by
  rw [repL_len]
  simp
/-! ### the constructor -/
def mkD (a b : List Nat) : C_DaySet := ⟨a, b, a.length, b.length⟩
def outc (a b : List Nat) : Rz Unit C_DaySet := if 5000 < a.length + b.length then .exc ⟨1, [.int 5000]⟩ () else .ret (mkD a b)
theorem bits_okT {l : List Nat} (h : Bits l) : ∀ y ∈ l.map (fun c => [c]), okT y = true := fun y hy => by
  obtain ⟨c, hc, rfl⟩ := List.mem_map.mp hy
  rcases h c hc with rfl | rfl <;> decide
theorem one_inj (x y : Nat) (h : [x] = [y]) : x = y := List.head_eq_of_cons_eq h
theorem init_ok {l c a b : List Nat} (hl : l.length ≤ 100000) (hc : c.length ≤ 100000) (bl : Bits l) (bc : Bits c) (h0 : c ≠ []) (nf : NF (sq l c) a b) : m_DaySet____init__ () l c = .ok (outc a b) := by
  unfold m_DaySet____init__
  rw [marks_ok (by omega), marks_ok (by omega), if_neg (by rw [decide_eq_false h0]; decide), decide_eq_true bl, decide_eq_true bc]
  simp only [ok_bind, Bool.not_true, Bool.false_eq_true, if_false]
  rw [sizeP_ok (by omega), ok_bind, sizeP_ok (by omega), ok_bind]
  obtain ⟨r, e, q⟩ := form_ok (l := l.map fun c => [c]) (c := c.map fun c => [c]) (by simpa using h0) (by rw [List.length_map]; exact hl) (by rw [List.length_map]; exact hc) (bits_okT bc)
  rw [e, ok_bind]
  obtain ⟨e1, e2⟩ := q.uniq (nf.map one_inj)
  rw [e1, e2]
  have sz := nf.size (List.length_pos_iff.mpr h0)
  rw [joinOk_one (by omega), joinOk_one (by omega), join_one, join_one, List.length_map, List.length_map]
  unfold outc
  by_cases h : 5000 < a.length + b.length
  · rw [if_pos h, if_pos (decide_eq_true (by omega))]
  · rw [if_neg h, if_neg (by rw [decide_eq_false (by omega)]; decide)]
    rfl
def frm (l c : List Nat) : List Nat := ((l ++ [40]) ++ c) ++ [41]
theorem frm_len {l c : List Nat} : (frm l c).length = l.length + c.length + 2 := by
  unfold frm
  simp
  omega
theorem int_ok (n : Int) : m_law_integer n n = .ok true := by
  unfold m_law_integer
  rw [decide_eq_true rfl]
  rfl
theorem str_ok {a b : List Nat} (h : a.length ≤ 100000) (g : b.length ≤ 100000) : m_DaySet____str__ (mkD a b) = .ok (frm a b) := by
  unfold m_DaySet____str__ mkD
  dsimp only
  rw [sizeP_ok (by omega), sizeP_ok (by omega), sizeP_ok (by simp; omega)]
  simp only [ok_bind]
  unfold frm
  simp
theorem bindE {α β : Type} {m : Mr α} {k : α → Mr β} {a : α} {r : Mr β} (e : m = .ok a) (g : k a = r) : (m >>= k) = r := by
  rw [e]
  exact g
theorem truth_ok (x : Bool) : m_law_truth x x = .ok true := by cases x <;> rfl
/-- the constructor and the law's own form of the same strings -/
theorem form2 {l c : List Nat} (bl : Bits l) (bc : Bits c) (h0 : 1 ≤ c.length) (hl : l.length ≤ 100000) (hc : c.length ≤ 100000) : ∃ a b, (NF (sq l c) a b ∧ Bits a ∧ Bits b ∧ a.length ≤ l.length ∧ b.length ≤ c.length) ∧ m_law_normal l c = .ok (a, b) ∧ m_DaySet____init__ () l c = .ok (outc a b) := by
  have hc0 : c ≠ [] := List.length_pos_iff.mp h0
  obtain ⟨r, e, nf⟩ := normal_ok hc0 hl hc
  have sz := nf.size h0
  exact ⟨r.1, r.2, ⟨nf, fun x hx => (nf.mem.1 x hx).elim (bl x) (bc x), fun x hx => (nf.mem.2 x hx).elim (bl x) (bc x), sz.1, sz.2⟩, e, init_ok hl hc bl bc hc0 nf⟩
theorem outc_small {a b : List Nat} (h : a.length + b.length ≤ 5000) : outc a b = .ret (mkD a b) := if_neg (by omega)
theorem shown_ok {a b : List Nat} (h : a.length ≤ 100000) (g : b.length ≤ 100000) : m_law_shown (mkD a b) (a, b) = .ok true := by
  unfold m_law_shown
  rw [str_ok h g]
  unfold mkD
  dsimp only
  rw [int_ok, int_ok, sizeP_ok (by omega), sizeP_ok (by omega), catOk_ok (by simp; omega), catOk_ok (by simp; omega), catOk_ok (by simp; omega), decide_eq_true (rfl : a = a), decide_eq_true (rfl : b = b)]
  show (.ok (decide (frm a b = frm a b)) : Mr Bool) = _
  rw [decide_eq_true rfl]
def bit (b : Bool) : Nat := if b = true then 49 else 48
def memb (p : List Nat × List Nat) (t : Nat) : Bool := sq p.1 p.2 t == some 49
def rowB (f : Nat → Bool) (n : Nat) : List Nat := (List.range n).map fun t => bit (f t)
theorem rowB_len {f : Nat → Bool} {n : Nat} : (rowB f n).length = n := by simp [rowB]
theorem rowB_get {f : Nat → Bool} {n t : Nat} (h : t < n) : (rowB f n)[t]? = some (bit (f t)) := by simp [rowB, h]
theorem bit_bits (b : Bool) : bit b = 48 ∨ bit b = 49 := by cases b <;> simp [bit]
theorem rowB_bits {f : Nat → Bool} {n : Nat} : Bits (rowB f n) := fun c hc => by
  obtain ⟨x, hx, rfl⟩ := List.mem_map.mp hc
  exact bit_bits _
theorem bit_inj {a b : Bool} (h : bit a = bit b) : a = b := by cases a <;> cases b <;> first | rfl | exact absurd h (by decide)
theorem jn_go {τ ω : Type} {s : τ} {k : τ → Mr ω} : ((.ok (.go s) : Mr (Jn τ ω)) >>= Jn.k k) = k s := rfl
def res (a b : List Nat) : List Nat × (C_DaySet ⊕ Int) := if 5000 < a.length + b.length then ([108, 111, 110, 103], .inr 5000) else ([115, 101, 116], .inl (mkD a b))
theorem res_small {a b : List Nat} (h : a.length + b.length ≤ 5000) : res a b = ([115, 101, 116], .inl (mkD a b)) := if_neg (by omega)
def xLong : Xc := ⟨1, [.int 5000]⟩
theorem rz_ret {ε ω β : Type} {w : ω} {k : ω → Mr β} {h : Xc → ε → Mr β} : ((.ok (.ret w) : Mr (Rz ε ω)) >>= Rz.k k h) = k w := rfl
theorem rz_exc {ε ω β : Type} {x : Xc} {c : ε} {k : ω → Mr β} {h : Xc → ε → Mr β} : ((.ok (.exc x c) : Mr (Rz ε ω)) >>= Rz.k k h) = h x c := rfl

/-! ### pairs, members -/
structure PS (p : List Nat × List Nat) : Prop where
  b1 : Bits p.1
  b2 : Bits p.2
  n0 : 1 ≤ p.2.length
  sz : p.1.length + p.2.length ≤ 5000
theorem sq_bit {p : List Nat × List Nat} (h : PS p) (t : Nat) : sq p.1 p.2 t = some (bit (memb p t)) := by
  obtain ⟨x, e⟩ := sq_some (l := p.1) (List.length_pos_iff.mp h.n0) t
  have hx : x = 48 ∨ x = 49 := by
    unfold sq at e
    split at e
    · exact h.b1 x (List.mem_of_getElem? e)
    · exact h.b2 x (List.mem_of_getElem? e)
  unfold memb
  rw [e]
  rcases hx with rfl | rfl <;> rfl
theorem get1 {p : List Nat × List Nat} (h : PS p) {t : Nat} (ht : t < p.1.length) : p.1[t]? = some (bit (memb p t)) := by
  rw [← sq_lt (c := p.2) ht]
  exact sq_bit h t
theorem get2 {p : List Nat × List Nat} (h : PS p) {j : Nat} (hj : j < p.2.length) : p.2[j]? = some (bit (memb p (p.1.length + j))) := by
  rw [← sq_bit h, sq_ge (by omega), Nat.add_sub_cancel_left, Nat.mod_eq_of_lt hj]
theorem memb_per {p : List Nat × List Nat} : Per (memb p) p.1.length p.2.length := fun t ht => by
  unfold memb
  rw [sq_per t ht]
theorem bit49 {b : Bool} : bit b = 49 ↔ b = true := by cases b <;> simp [bit]
theorem bit48 {b : Bool} : bit b = 48 ↔ b = false := by cases b <;> simp [bit]
theorem some49 {b : Bool} : some (bit b) = some 49 ↔ b = true := by cases b <;> simp [bit]
theorem some48 {b : Bool} : some (bit b) = some 48 ↔ b = false := by cases b <;> simp [bit]
theorem dec_bit {b : Bool} : decide ([bit b] = [49]) = b := by cases b <;> rfl
/-! ### counts -/
def cnt (g : Nat → Bool) : Nat → Nat
  | 0 => 0
  | n + 1 => cnt g n + (if g n = true then 1 else 0)
theorem cnt_congr {g h : Nat → Bool} : ∀ n, (∀ t, t < n → g t = h t) → cnt g n = cnt h n
  | 0, _ => rfl
  | n + 1, e => by
    unfold cnt
    rw [cnt_congr n fun t ht => e t (by omega), e n (by omega)]
theorem cnt_add (g : Nat → Bool) (m : Nat) : ∀ n, cnt g (m + n) = cnt g m + cnt (fun t => g (m + t)) n
  | 0 => rfl
  | n + 1 => by
    show cnt g (m + n) + (if g (m + n) = true then 1 else 0) = cnt g m + (cnt (fun t => g (m + t)) n + (if g (m + n) = true then 1 else 0))
    rw [cnt_add g m n, Nat.add_assoc]
theorem cnt_mono {g : Nat → Bool} {m n : Nat} (h : m ≤ n) : cnt g m ≤ cnt g n := by
  have e : n = m + (n - m) := by omega
  rw [e, cnt_add]
  omega
theorem cnt_le (g : Nat → Bool) : ∀ n, cnt g n ≤ n
  | 0 => Nat.le_refl _
  | n + 1 => by
    have := cnt_le g n
    unfold cnt
    split <;> omega
theorem cnt_none {g : Nat → Bool} : ∀ n, (∀ t, t < n → g t = false) → cnt g n = 0
  | 0, _ => rfl
  | n + 1, e => by
    unfold cnt
    rw [cnt_none n fun t ht => e t (by omega), e n (by omega)]
    rfl
theorem cnt_flat {g : Nat → Bool} {m n : Nat} (h : m ≤ n) (e : ∀ t, m ≤ t → t < n → g t = false) : cnt g n = cnt g m := by
  have e2 : n = m + (n - m) := by omega
  rw [e2, cnt_add, cnt_none (n - m) fun t ht => e (m + t) (by omega) (by omega)]
  rfl
theorem cnt_succ {g : Nat → Bool} {n : Nat} (h : g n = true) : cnt g (n + 1) = cnt g n + 1 := by
  show cnt g n + _ = _
  rw [if_pos h]
theorem cnt_take {l : List Nat} : ∀ n, (l.take n).count 49 = cnt (fun t => l[t]? == some 49) n
  | 0 => by rw [List.take_zero]; rfl
  | n + 1 => by
    rw [List.take_add_one, List.count_append, cnt_take n]
    show _ = cnt _ n + (if (l[n]? == some 49) = true then 1 else 0)
    congr 1
    generalize l[n]? = o
    cases o with
    | none => rfl
    | some x =>
      by_cases hx : x = 49
      · subst hx
        rfl
      · simp [hx]
theorem cnt_all {l : List Nat} : l.count 49 = cnt (fun t => l[t]? == some 49) l.length := by
  rw [← cnt_take, List.take_length]
theorem some_beq {b : Bool} : (some (bit b) == some 49) = b := by cases b <;> rfl
theorem cnt1 {p : List Nat × List Nat} (h : PS p) {d : Nat} (hd : d ≤ p.1.length) : (p.1.take d).count 49 = cnt (memb p) d := by
  rw [cnt_take]
  refine cnt_congr d fun t ht => ?_
  rw [get1 h (by omega), some_beq]
theorem cnt1a {p : List Nat × List Nat} (h : PS p) : p.1.count 49 = cnt (memb p) p.1.length := by
  rw [← cnt1 h (Nat.le_refl _), List.take_length]
theorem cnt2 {p : List Nat × List Nat} (h : PS p) {d : Nat} (hd : d ≤ p.2.length) : (p.2.take d).count 49 = cnt (fun t => memb p (p.1.length + t)) d := by
  rw [cnt_take]
  refine cnt_congr d fun t ht => ?_
  rw [get2 h (by omega), some_beq]
theorem cnt2a {p : List Nat × List Nat} (h : PS p) : p.2.count 49 = cnt (fun t => memb p (p.1.length + t)) p.2.length := by
  rw [← cnt2 h (Nat.le_refl _), List.take_length]
theorem cnt_rounds {g : Nat → Bool} {s P : Nat} (per : Per g s P) (r : Nat) : ∀ k, cnt (fun t => g (s + t)) (k * P + r) = k * cnt (fun t => g (s + t)) P + cnt (fun t => g (s + t)) r
  | 0 => by simp
  | k + 1 => by
    have e : (k + 1) * P + r = P + (k * P + r) := by
      rw [Nat.add_mul]
      omega
    rw [e, cnt_add]
    have e2 : (fun t => g (s + (P + t))) = fun t => g (s + t) := funext fun t => by
      have := per (s + t) (by omega)
      rw [← this]
      congr 1
      omega
    rw [e2, cnt_rounds per r k, Nat.add_mul]
    omega
theorem count_eq {p : List Nat × List Nat} (h : PS p) {d : Nat} (hd : p.1.length ≤ d) : p.1.count 49 + (d - p.1.length) / p.2.length * p.2.count 49 + (p.2.take ((d - p.1.length) % p.2.length)).count 49 = cnt (memb p) d := by
  have e : d = p.1.length + ((d - p.1.length) / p.2.length * p.2.length + (d - p.1.length) % p.2.length) := by
    have := Nat.div_add_mod (d - p.1.length) p.2.length
    rw [Nat.mul_comm] at this
    omega
  have hm := Nat.mod_lt (d - p.1.length) (show p.2.length > 0 from h.n0)
  rw [cnt1a h, cnt2 h (Nat.le_of_lt hm), cnt2a h]
  conv => rhs; rw [e, cnt_add, cnt_rounds memb_per]
  omega
theorem mulP_big {a b : Nat} (ha : a < 2 ^ 120) (hb : b < 2 ^ 20) : mulP (a : Int) (b : Int) = .ok ((a * b : Nat) : Int) := by
  have h1 : bitsQ (a : Int) ≤ 120 := bitsQ_le (by rw [Int.natAbs_natCast]; exact ha)
  have h2 : bitsQ (b : Int) ≤ 20 := bitsQ_le (by rw [Int.natAbs_natCast]; exact hb)
  unfold mulP
  rw [if_pos (by omega), Int.natCast_mul]
theorem count_le {l : List Nat} {x : Nat} : l.count x ≤ l.length := List.count_le_length ..
theorem nsub {d s : Nat} (h : s ≤ d) : (d : Int) - (s : Int) = ((d - s : Nat) : Int) := by omega
theorem lawcount_ok {p : List Nat × List Nat} (h : PS p) {d : Nat} (hb : d < 2 ^ 118) : m_law_count p (d : Int) = .ok ((cnt (memb p) d : Nat) : Int) := by
  have n0 := h.n0
  have sz := h.sz
  have c2 : p.2.count 49 ≤ p.2.length := count_le
  have z1 : sizeP p.1 = .ok () := sizeP_ok (by omega)
  have z2 : sizeP p.2 = .ok () := sizeP_ok (by omega)
  unfold m_law_count
  simp only [z1, z2, ok_bind]
  by_cases hd : d ≤ p.1.length
  · rw [if_pos (decide_eq_true (by omega)), cut_to (by omega), Int.toNat_natCast, cnt1 h hd]
  · have hq := Nat.div_le_self (d - p.1.length) p.2.length
    rw [if_neg (by simp; omega), nsub (by omega), fdivP_ok (by omega) (by omega), ok_bind, modP_ok (by omega), ok_bind, ← Int.natCast_ediv, ← Int.natCast_emod, mulP_big (by omega) (by omega), ok_bind, cut_to (by omega), Int.toNat_natCast]
    rw [← count_eq h (show p.1.length ≤ d by omega)]
    rfl
theorem progcount_ok {p : List Nat × List Nat} (h : PS p) {d : Nat} (hb : d < 2 ^ 118) : m_DaySet__count_before (mkD p.1 p.2) (d : Int) = .ok ((cnt (memb p) d : Nat) : Int) := by
  have n0 := h.n0
  have sz := h.sz
  have c2 : p.2.count 49 ≤ p.2.length := count_le
  unfold m_DaySet__count_before mkD
  dsimp only
  by_cases hd : d ≤ p.1.length
  · rw [if_pos (decide_eq_true (by omega)), sizeP_ok (by omega), ok_bind, cut_to (by omega), Int.toNat_natCast, cnt1 h hd]
  · have hq := Nat.div_le_self (d - p.1.length) p.2.length
    have hl : ((p.2.length : Nat) : Int).natAbs.log2 < 9000 := by
      rw [Int.natAbs_natCast]
      exact Nat.lt_of_lt_of_le (Nat.log2_lt (by omega) |>.mpr (show p.2.length < 2 ^ 13 by omega)) (by decide)
    have hv : divP ((d - p.1.length : Nat) : Int) ((p.2.length : Nat) : Int) = .ok ((((d - p.1.length) / p.2.length : Nat) : Int), (((d - p.1.length) % p.2.length : Nat) : Int)) := by
      unfold divP
      rw [if_pos ⟨by omega, hl⟩, Int.natCast_ediv, Int.natCast_emod]
    rw [if_neg (by simp; omega), nsub (by omega), hv, ok_bind, ok_bind, mulP_big (by omega) (by omega), ok_bind, sizeP_ok (by omega), ok_bind]
    dsimp only
    rw [cut_to (by omega), Int.toNat_natCast, ← count_eq h (show p.1.length ≤ d by omega)]
    rfl
/-! ### members -/
theorem per_at {p : List Nat × List Nat} {t : Nat} (ht : p.1.length ≤ t) : memb p (p.1.length + (t - p.1.length) % p.2.length) = memb p t := by
  rw [per_mod memb_per]
  congr 1
  omega
theorem lawmem_ok {p : List Nat × List Nat} (h : PS p) (d : Nat) : m_law_member p (d : Int) = .ok (memb p d) := by
  have n0 := h.n0
  have sz := h.sz
  have z1 : sizeP p.1 = .ok () := sizeP_ok (by omega)
  have z2 : sizeP p.2 = .ok () := sizeP_ok (by omega)
  unfold m_law_member
  simp only [z1, z2, ok_bind]
  by_cases hd : d < p.1.length
  · rw [if_pos (decide_eq_true (by omega)), getI_nat (get1 h hd), ok_bind, dec_bit]
  · have hm := Nat.mod_lt (d - p.1.length) (show p.2.length > 0 from n0)
    rw [if_neg (by simp; omega), nsub (by omega), modP_ok (by omega), ok_bind, ← Int.natCast_emod, getI_nat (get2 h hm), ok_bind, dec_bit, per_at (by omega)]
theorem progmem_ok {p : List Nat × List Nat} (h : PS p) (d : Nat) : m_DaySet____contains__ (mkD p.1 p.2) (d : Int) = .ok (memb p d) := by
  have n0 := h.n0
  have sz := h.sz
  unfold m_DaySet____contains__ mkD
  dsimp only
  by_cases hd : d < p.1.length
  · rw [if_pos (decide_eq_true (by omega)), sizeP_ok (by omega), ok_bind, getI_nat (get1 h hd), ok_bind, dec_bit]
  · have hm := Nat.mod_lt (d - p.1.length) (show p.2.length > 0 from n0)
    rw [if_neg (by simp; omega), nsub (by omega), modP_ok (by omega), ok_bind, ← Int.natCast_emod, sizeP_ok (by omega), ok_bind, getI_nat (get2 h hm), ok_bind, dec_bit, per_at (by omega)]

/-! ### sought -/
theorem findX_first (l : List Nat) (c : Nat) : findX l c = firstF l c 0 := by
  unfold findX
  rcases firstF_cases (a := l) (c := c) 0 with ⟨e, h⟩ | ⟨i, e, _, h1, h2⟩
  · have : l.findIdx? (· == c) = none := by
      rw [List.findIdx?_eq_none_iff]
      intro x hx
      obtain ⟨j, hj, ej⟩ := List.mem_iff_getElem.mp hx
      have := h j (Nat.zero_le _)
      rw [List.getElem?_eq_getElem hj, ej] at this
      simpa using fun z : x = c => this (by rw [z])
    rw [e, this]
  · obtain ⟨hl, el⟩ := List.getElem?_eq_some_iff.mp h1
    have : l.findIdx? (· == c) = some i := by
      rw [List.findIdx?_eq_some_iff_getElem]
      refine ⟨hl, by simpa using el, fun j hj z => ?_⟩
      have := h2 j (Nat.zero_le _) hj
      rw [List.getElem?_eq_getElem (by omega)] at this
      exact this (congrArg some (by simpa using z))
    rw [e, this]
theorem find3_nat (l : List Nat) (c i : Nat) : findX3 l c (i : Int) = firstF l c i := by
  unfold findX3
  rw [if_neg (by omega), Int.toNat_natCast]
def NextI (g : Nat → Bool) (d : Nat) : Option Int → Prop
  | none => ∀ t, d ≤ t → g t = false
  | some x => ∃ t : Nat, x = (t : Int) ∧ d ≤ t ∧ g t = true ∧ ∀ u, d ≤ u → u < t → g u = false
theorem NextI.uniq {g : Nat → Bool} {d : Nat} : ∀ {r r' : Option Int}, NextI g d r → NextI g d r' → r = r'
  | none, none, _, _ => rfl
  | none, some _, h, ⟨t, _, h1, h2, _⟩ => by rw [h t h1] at h2; cases h2
  | some _, none, ⟨t, _, h1, h2, _⟩, h => by rw [h t h1] at h2; cases h2
  | some _, some _, ⟨t, e, h1, h2, h3⟩, ⟨t', e', k1, k2, k3⟩ => by
    subst e e'
    rcases Nat.lt_trichotomy t t' with h | h | h
    · rw [k3 t h1 h] at h2
      cases h2
    · rw [h]
    · rw [h3 t' k1 h] at k2
      cases k2
theorem same_ok : ∀ r : Option Int, m_law_same r r = .ok true
  | none => rfl
  | some x => by
    unfold m_law_same m_law_integer_1
    simp [getO, ok_bind]
/-- all rounds behind d -/
theorem none_per {g : Nat → Bool} {d P : Nat} (hP : 1 ≤ P) (per : Per g d P) (h : ∀ x, x < P → g (d + x) = false) : ∀ t, d ≤ t → g t = false := fun t ht => by
  have := per_mod per (t - d)
  rw [h _ (Nat.mod_lt _ hP)] at this
  rw [this]
  congr 1
  omega
theorem row2 {p : List Nat × List Nat} (h : PS p) {t : Nat} (ht : t < p.1.length + p.2.length) : (p.1 ++ p.2)[t]? = some (bit (memb p t)) := by
  by_cases hl : t < p.1.length
  · rw [List.getElem?_append_left hl, get1 h hl]
  · rw [List.getElem?_append_right (by omega), get2 h (by omega)]
    congr 3
    omega
theorem cyc2 {p : List Nat × List Nat} (h : PS p) {t : Nat} (ht : t < 2 * p.2.length) : (p.2 ++ p.2)[t]? = some (bit (memb p (p.1.length + t))) := by
  by_cases hl : t < p.2.length
  · rw [List.getElem?_append_left hl, get2 h hl]
  · rw [List.getElem?_append_right (by omega), get2 h (by omega), ← memb_per _ (by omega)]
    congr 3
    omega
theorem shift {p : List Nat × List Nat} (h : PS p) {d x : Nat} (hd : p.1.length ≤ d) : memb p (p.1.length + ((d - p.1.length) % p.2.length + x)) = memb p (d + x) := by
  have e1 := per_mod (memb_per (p := p)) ((d - p.1.length) % p.2.length + x)
  have e2 := per_mod (memb_per (p := p)) (d - p.1.length + x)
  rw [Nat.mod_add_mod] at e1
  rw [← e1, e2]
  congr 1
  omega
theorem not_t {b : Bool} (h : some (bit b) ≠ some 49) : b = false := by cases b with
  | false => rfl
  | true => exact absurd rfl h
theorem lawnext_ok {p : List Nat × List Nat} (h : PS p) (d : Nat) : Post (m_law_next p (d : Int)) (NextI (memb p) d) := by
  have n0 := h.n0
  have sz := h.sz
  unfold m_law_next
  refine post_bindE (sizeP_ok (by omega)) (post_bindE rfl (post_if (fun hd => ?_) fun hd => ?_))
  · have hd : (d : Int) < (p.1.length : Int) := of_decide_eq_true hd
    refine post_bindE (catOk_ok (by omega)) (post_bindE rfl ?_)
    rw [find3_nat]
    rcases firstF_cases (a := p.1 ++ p.2) (c := 49) d with ⟨e, hn⟩ | ⟨i, e, h1, h2, h3⟩
    · rw [e]
      have k : ∀ t, p.1.length ≤ t → memb p t = false := none_per n0 memb_per fun x hx => by
        have := hn (p.1.length + x) (by omega)
        rw [row2 h (by omega)] at this
        exact not_t this
      refine post_ok ?_
      show ∀ t, _ → _
      intro t ht
      · by_cases hl : t < p.1.length
        · have := hn t ht
          rw [row2 h (by omega)] at this
          exact not_t this
        · exact k t (by omega)
    · rw [e, if_neg (fun z => by have := of_decide_eq_true z; omega)]
      have hi : i < p.1.length + p.2.length := by
        have := (List.getElem?_eq_some_iff.mp h2).1
        rwa [List.length_append] at this
      rw [row2 h hi] at h2
      refine post_ok ⟨i, rfl, h1, some49.mp h2, fun u u1 u2 => ?_⟩
      have := h3 u u1 u2
      rw [row2 h (by omega)] at this
      exact not_t this
  · have hd : ¬ (d : Int) < (p.1.length : Int) := fun z => hd (decide_eq_true z)
    have hl : p.1.length ≤ d := by omega
    have hm := Nat.mod_lt (d - p.1.length) (show p.2.length > 0 from n0)
    refine post_bindE (sizeP_ok (by omega)) (post_bindE (by rw [nsub hl, modP_ok (by omega), ← Int.natCast_emod]) (post_bindE (catOk_ok (by omega)) (post_bindE rfl ?_)))
    rw [find3_nat]
    rcases firstF_cases (a := p.2 ++ p.2) (c := 49) ((d - p.1.length) % p.2.length) with ⟨e, hn⟩ | ⟨i, e, h1, h2, h3⟩
    · rw [e]
      refine post_ok (none_per n0 (memb_per.mono hl) fun x hx => ?_)
      have := hn ((d - p.1.length) % p.2.length + x) (by omega)
      rw [cyc2 h (by omega), shift h hl] at this
      exact not_t this
    · rw [e, if_neg (fun z => by have := of_decide_eq_true z; omega)]
      have hi : i < 2 * p.2.length := by
        have := (List.getElem?_eq_some_iff.mp h2).1
        rw [List.length_append] at this
        omega
      have at_ : ∀ k, (d - p.1.length) % p.2.length ≤ k → memb p (p.1.length + k) = memb p (d + (k - (d - p.1.length) % p.2.length)) := fun k hk => by
        rw [← shift h hl]
        congr 1
        omega
      rw [cyc2 h hi, at_ i h1] at h2
      refine post_ok ⟨d + (i - (d - p.1.length) % p.2.length), by omega, by omega, some49.mp h2, fun u u1 u2 => ?_⟩
      have := h3 ((d - p.1.length) % p.2.length + (u - d)) (by omega) (by omega)
      rw [cyc2 h (by omega), at_ _ (by omega)] at this
      have e3 : d + ((d - p.1.length) % p.2.length + (u - d) - (d - p.1.length) % p.2.length) = u := by omega
      rw [e3] at this
      exact not_t this
theorem prognext_ok {p : List Nat × List Nat} (h : PS p) (d : Nat) : Post (m_DaySet__next_from (mkD p.1 p.2) (d : Int)) (NextI (memb p) d) := by
  have n0 := h.n0
  have sz := h.sz
  unfold m_DaySet__next_from mkD
  dsimp only
  refine post_jn (A := fun _ => ∀ t, d ≤ t → t < p.1.length → memb p t = false) (post_if (fun hd => ?_) fun hd => ?_) fun _ hA => ?_
  · refine post_bindE rfl ?_
    rw [find3_nat]
    rcases firstF_cases (a := p.1) (c := 49) d with ⟨e, hn⟩ | ⟨i, e, h1, h2, h3⟩
    · rw [e]
      refine post_ok ?_
      show ∀ t, _ → _ → _
      intro t t1 t2
      have := hn t t1
      rw [get1 h t2] at this
      exact not_t this
    · rw [e, if_pos (decide_eq_true (by omega))]
      have hi := (List.getElem?_eq_some_iff.mp h2).1
      rw [get1 h hi] at h2
      refine post_ok ?_
      show NextI _ _ (some (i : Int))
      refine ⟨i, rfl, h1, some49.mp h2, fun u u1 u2 => ?_⟩
      have := h3 u u1 u2
      rw [get1 h (by omega)] at this
      exact not_t this
  · have hd : ¬ (d : Int) < (p.1.length : Int) := fun z => hd (decide_eq_true z)
    refine post_ok ?_
    show ∀ t, _ → _ → _
    intro t t1 t2
    omega
  · have hf : (if ((p.1.length : Nat) : Int) > (d : Int) then ((p.1.length : Nat) : Int) else (d : Int)) = ((max d p.1.length : Nat) : Int) := by
      split <;> omega
    rw [hf]
    have hl : p.1.length ≤ max d p.1.length := Nat.le_max_right _ _
    have hm := Nat.mod_lt (max d p.1.length - p.1.length) (show p.2.length > 0 from n0)
    have hA : ∀ t, d ≤ t → t < max d p.1.length → memb p t = false := fun t t1 t2 => hA t t1 (by omega)
    have hdm : d ≤ max d p.1.length := Nat.le_max_left _ _
    generalize max d p.1.length = D at *
    refine post_bindE rfl (post_bindE (by rw [nsub hl, modP_ok (by omega), ← Int.natCast_emod]) (post_bindE (sizeP_ok (by omega)) (post_bindE (sizeP_ok (by omega)) (post_bindE (catOk_ok ?_) (post_bindE rfl ?_)))))
    · rw [cut_to (by omega), cut_from (by omega), List.length_take, List.length_drop]
      omega
    rw [cut_to (by omega), cut_from (by omega), Int.toNat_natCast, findX_first]
    have rg : ∀ i, i < p.2.length → (p.2.drop ((D - p.1.length) % p.2.length) ++ p.2.take ((D - p.1.length) % p.2.length))[i]? = some (bit (memb p (D + i))) := fun i hi => by
      rw [rot_get (Nat.le_of_lt hm) hi, get2 h (Nat.mod_lt _ n0), per_mod memb_per, Nat.add_comm i, shift h hl]
    have ln : (p.2.drop ((D - p.1.length) % p.2.length) ++ p.2.take ((D - p.1.length) % p.2.length)).length = p.2.length := by
      rw [List.length_append, List.length_take, List.length_drop]
      omega
    rcases firstF_cases (a := p.2.drop ((D - p.1.length) % p.2.length) ++ p.2.take ((D - p.1.length) % p.2.length)) (c := 49) 0 with ⟨e, hn⟩ | ⟨i, e, h1, h2, h3⟩
    · rw [e]
      refine post_ok ?_
      show ∀ t, _ → _
      intro t ht
      by_cases hD : t < D
      · exact hA t ht hD
      · refine none_per n0 (memb_per.mono hl) (fun x hx => ?_) t (by omega)
        have := hn x (Nat.zero_le _)
        rw [rg x hx] at this
        exact not_t this
    · rw [e, if_neg (fun z => by have := of_decide_eq_true z; omega)]
      have hi := (List.getElem?_eq_some_iff.mp h2).1
      rw [ln] at hi
      rw [rg i hi] at h2
      refine post_ok ⟨D + i, by omega, by omega, some49.mp h2, fun u u1 u2 => ?_⟩
      by_cases hD : u < D
      · exact hA u u1 hD
      · have := h3 (u - D) (Nat.zero_le _) (by omega)
        rw [rg _ (by omega)] at this
        have e3 : D + (u - D) = u := by omega
        rw [e3] at this
        exact not_t this

/-! ### the member with so many before it -/
theorem place_ok {l : List Nat} {k : Nat} (hk : k < l.count 49) (hl : l.length ≤ 100000) : Post (m_place_of l (k : Int)) fun r => ∃ t : Nat, r = (t : Int) ∧ l[t]? = some 49 ∧ (l.take t).count 49 = k := by
  have hc : l.count 49 ≤ l.length := count_le
  unfold m_place_of
  have tr : ∀ {t : Nat}, l[t]? = some 49 → (fun t => l[t]? == some 49) t = true := fun e => by
    show (_ == _) = true
    rw [e]
    rfl
  have fl : ∀ {t : Nat}, l[t]? ≠ some 49 → (fun t => l[t]? == some 49) t = false := fun e => by
    show (_ == _) = false
    simpa using e
  have stepd : ∀ (t : Nat), l[t]? = some 49 → (l.take t).count 49 + 1 < l.count 49 → ∃ t' : Nat, findX3 l 49 ((t : Int) + 1) = (t' : Int) ∧ l[t']? = some 49 ∧ (l.take t').count 49 = (l.take t).count 49 + 1 := fun t ht hlt => by
    have ht2 := (List.getElem?_eq_some_iff.mp ht).1
    have e1 : ((t : Int) + 1) = ((t + 1 : Nat) : Int) := rfl
    rw [e1, find3_nat]
    rcases firstF_cases (a := l) (c := 49) (t + 1) with ⟨e, hn⟩ | ⟨i, e, h1, h2, h3⟩
    · rw [cnt_all (l := l), cnt_take, ← cnt_succ (g := fun t => l[t]? == some 49) (tr ht), cnt_flat (g := fun t => l[t]? == some 49) (show t + 1 ≤ l.length from ht2) fun u u1 u2 => fl (hn u u1)] at hlt
      omega
    · refine ⟨i, e, h2, ?_⟩
      rw [cnt_take, cnt_take, ← cnt_succ (g := fun t => l[t]? == some 49) (tr ht), cnt_flat (g := fun t => l[t]? == some 49) h1 fun u u1 u2 => fl (h3 u u1 u2)]
  refine post_bindE rfl (post_bindE (rngP_pos (by decide) (by decide) (by omega) (by omega)) ?_)
  refine post_stp (A := fun s => ∃ t : Nat, s = (t : Int) ∧ l[t]? = some 49 ∧ (l.take t).count 49 = k) (post_rng (I := fun x s => ∃ t : Nat, s = (t : Int) ∧ l[t]? = some 49 ∧ (((l.take t).count 49 : Nat) : Int) = x) (by omega) ?_ ?_ ?_) fun s hs => post_ok hs
  · rw [findX_first]
    rcases firstF_cases (a := l) (c := 49) 0 with ⟨e, hn⟩ | ⟨i, e, _, h2, h3⟩
    · rw [cnt_all (l := l), cnt_none (g := fun t => l[t]? == some 49) _ fun t ht => fl (hn t (Nat.zero_le _))] at hk
      omega
    · refine ⟨i, e, h2, ?_⟩
      rw [cnt_take, cnt_none (g := fun t => l[t]? == some 49) _ fun t ht => fl (h3 t (Nat.zero_le _) ht)]
      rfl
  · rintro x s h0 hx ⟨t, rfl, h1, h2⟩
    obtain ⟨t', e1, e2, e3⟩ := stepd t h1 (by omega)
    refine post_bindE rfl (post_ok ?_)
    show ∃ t : Nat, _
    exact ⟨t', e1, e2, by omega⟩
  · rintro s ⟨t, e1, e2, e3⟩
    exact ⟨t, e1, e2, by omega⟩
def NthI (g : Nat → Bool) (k : Nat) : Option Int → Prop
  | none => ∀ n, cnt g n ≤ k
  | some x => ∃ t : Nat, x = (t : Int) ∧ g t = true ∧ cnt g t = k ∧ t < 2 ^ 118
theorem has49 {l : List Nat} : l.count 49 = 0 ↔ 49 ∉ l := List.count_eq_zero
theorem nth_ok {p : List Nat × List Nat} (h : PS p) {k : Nat} (hb : k < 2 ^ 101) : Post (m_DaySet__nth (mkD p.1 p.2) (k : Int)) (NthI (memb p) k) := by
  have n0 := h.n0
  have sz := h.sz
  have c1 : p.1.count 49 ≤ p.1.length := count_le
  have c2 : p.2.count 49 ≤ p.2.length := count_le
  unfold m_DaySet__nth mkD
  dsimp only
  refine post_bindE rfl (post_if (fun hd => ?_) fun hd => ?_)
  · have hd := of_decide_eq_true hd
    refine post_bind (place_ok (l := p.1) (by omega) (by omega)) ?_
    rintro r ⟨t, rfl, h1, h2⟩
    have ht := (List.getElem?_eq_some_iff.mp h1).1
    rw [get1 h ht] at h1
    refine post_ok ⟨t, rfl, some49.mp h1, ?_, by omega⟩
    rw [← cnt1 h (Nat.le_of_lt ht), h2]
  · have hd : p.1.count 49 ≤ k := by
      have : ¬ (k : Int) < ((p.1.count 49 : Nat) : Int) := fun z => hd (decide_eq_true z)
      omega
    refine post_bindE rfl (post_if (fun he => ?_) fun he => ?_)
    · have he : p.2.count 49 = 0 := by
        have := of_decide_eq_true he
        omega
      refine post_ok ?_
      show ∀ n, _
      intro n
      by_cases hn : n ≤ p.1.length
      · refine Nat.le_trans (cnt_mono hn) ?_
        rw [← cnt1a h]
        exact hd
      · rw [← count_eq h (show p.1.length ≤ n by omega), he]
        have : (p.2.take ((n - p.1.length) % p.2.length)).count 49 ≤ p.2.count 49 := List.Sublist.count_le _ (List.take_sublist _ _)
        omega
    · have he : 0 < p.2.count 49 := by
        have : ¬ ((p.2.count 49 : Nat) : Int) = 0 := fun z => he (decide_eq_true z)
        omega
      have hl : ((p.2.count 49 : Nat) : Int).natAbs.log2 < 9000 := by
        rw [Int.natAbs_natCast]
        exact Nat.lt_of_lt_of_le (Nat.log2_lt (by omega) |>.mpr (show p.2.count 49 < 2 ^ 13 by omega)) (by decide)
      have hv : divP ((k : Int) - ((p.1.count 49 : Nat) : Int)) ((p.2.count 49 : Nat) : Int) = .ok ((((k - p.1.count 49) / p.2.count 49 : Nat) : Int), (((k - p.1.count 49) % p.2.count 49 : Nat) : Int)) := by
        unfold divP
        rw [nsub hd, if_pos ⟨by omega, hl⟩, Int.natCast_ediv, Int.natCast_emod]
      have hq := Nat.div_le_self (k - p.1.count 49) (p.2.count 49)
      have hm := Nat.mod_lt (k - p.1.count 49) he
      refine post_bindE hv (post_bindE (mulP_big (by omega) (by omega)) (post_bind (place_ok (l := p.2) hm (by omega)) ?_))
      rintro r ⟨t, rfl, h1, h2⟩
      have ht := (List.getElem?_eq_some_iff.mp h1).1
      rw [get2 h ht] at h1
      generalize hR : (k - p.1.count 49) / p.2.count 49 = R at *
      have hk := Nat.div_add_mod (k - p.1.count 49) (p.2.count 49)
      rw [hR] at hk
      have hR2 : R * p.2.length ≤ k * 5000 := Nat.mul_le_mul (by omega) (by omega)
      refine post_ok ⟨p.1.length + (R * p.2.length + t), by push_cast; omega, ?_, ?_, by omega⟩
      · have em : (R * p.2.length + t) % p.2.length = t := by rw [Nat.mul_comm, Nat.mul_add_mod, Nat.mod_eq_of_lt ht]
        rw [← per_mod memb_per, em]
        exact some49.mp h1
      · have e1 : p.1.length + (R * p.2.length + t) - p.1.length = p.2.length * R + t := by
          rw [Nat.add_sub_cancel_left, Nat.mul_comm]
        rw [← count_eq h (Nat.le_add_right _ _), e1, Nat.mul_add_div n0, Nat.div_eq_of_lt ht, Nat.mul_add_mod, Nat.mod_eq_of_lt ht, h2, Nat.add_zero, Nat.mul_comm R]
        omega
theorem mem1_ok {p : List Nat × List Nat} (h : PS p) (d : Nat) : m_law_member_1 p (some (d : Int)) = .ok (memb p d) := by
  rw [← lawmem_ok h d]
  unfold m_law_member_1 m_law_member getO
  rfl
theorem cnt1_ok {p : List Nat × List Nat} (h : PS p) {d : Nat} (hb : d < 2 ^ 118) : m_law_count_1 p (some (d : Int)) = .ok ((cnt (memb p) d : Nat) : Int) := by
  rw [← lawcount_ok h hb]
  unfold m_law_count_1 m_law_count getO
  rfl

theorem isT {m : Mr Bool} (h : Post m fun b => b = true) : m = .ok true := by
  obtain ⟨b, e, rfl⟩ := h
  exact e
theorem inf {p : List Nat × List Nat} (h : PS p) {b : Bool} (hm : bit b ∈ p.2) (n : Nat) : ∃ t, n ≤ t ∧ memb p t = b := by
  obtain ⟨j, hj, e⟩ := List.mem_iff_getElem.mp hm
  have e2 : p.2[j]? = some (bit b) := by rw [List.getElem?_eq_getElem hj, e]
  rw [get2 h hj] at e2
  have eb := bit_inj (Option.some.inj e2)
  have n0 := h.n0
  refine ⟨p.1.length + (p.2.length * n + j), ?_, ?_⟩
  · have := Nat.le_mul_of_pos_left n n0
    omega
  · rw [← per_mod memb_per, Nat.mul_add_mod, Nat.mod_eq_of_lt hj]
    exact eb
theorem nof {p : List Nat × List Nat} (h : PS p) {b : Bool} (hm : bit b ∉ p.2) {t : Nat} (ht : p.1.length ≤ t) : memb p t = !b := by
  have hr := Nat.mod_lt (t - p.1.length) (show p.2.length > 0 from h.n0)
  have e := get2 h hr
  rw [per_at ht] at e
  have hx := List.mem_of_getElem? e
  cases hm2 : memb p t <;> cases b <;> first | rfl | (rw [hm2] at hx; exact absurd hx hm)
theorem lawnth_ok {p : List Nat × List Nat} (h : PS p) {k : Nat} {r : Option Int} (hr : NthI (memb p) k r) : m_law_nth_holds p (k : Int) r = .ok true := by
  have n0 := h.n0
  cases r with
  | none =>
    have hr : ∀ n, cnt (memb p) n ≤ k := hr
    have c1 : p.1.count 49 ≤ k := by
      rw [cnt1a h]
      exact hr _
    have c2 : 49 ∉ p.2 := fun hm => by
      have h1 : 1 ≤ p.2.count 49 := List.count_pos_iff.mpr hm
      have := hr (p.1.length + p.2.length * (k + 1))
      rw [← count_eq h (Nat.le_add_right _ _), Nat.add_sub_cancel_left, Nat.mul_div_cancel_left _ n0] at this
      have := Nat.mul_le_mul (Nat.le_refl (k + 1)) h1
      omega
    unfold m_law_nth_holds
    rw [if_pos (by simp [c2]; omega)]
    rfl
  | some x =>
    obtain ⟨t, rfl, ht, hc, hb⟩ := hr
    have hf : ¬ ((!p.2.contains 49) && (decide ((((p.1.count 49 : Nat) : Int)) ≤ (k : Int)))) = true := fun z => by
      obtain ⟨z1, z2⟩ := Bool.and_eq_true_iff.mp z
      have z1 : 49 ∉ p.2 := by simpa using z1
      have z2 := of_decide_eq_true z2
      by_cases hl : t < p.1.length
      · have := cnt_mono (g := memb p) (show t + 1 ≤ p.1.length from hl)
        rw [cnt_succ ht, hc, ← cnt1a h] at this
        omega
      · rw [nof (b := true) h z1 (by omega)] at ht
        cases ht
    unfold m_law_nth_holds
    rw [if_neg hf]
    have hlt : decide ((t : Int) < 0) = false := by simp
    simp only [Option.isSome_some, getO, ok_bind, hlt, mem1_ok h, cnt1_ok h hb, ht, hc, if_true, Bool.not_true, Bool.false_eq_true, if_false, decide_true]
theorem day_ok {p q : List Nat × List Nat} (h : PS p) (g : PS q) (e : memb q = memb p) {d k : Nat} (hd : d < 2 ^ 101) (hk : k < 2 ^ 101) : m_law_day_holds (mkD q.1 q.2) p (d : Int) (k : Int) = .ok true := by
  refine isT ?_
  unfold m_law_day_holds
  refine post_bindE (progmem_ok g d) (post_bindE (lawmem_ok h d) (post_bindE (by rw [e]; exact truth_ok _) (post_if (fun z => by cases z) fun _ => ?_)))
  refine post_bind (prognext_ok g d) fun r4 q4 => post_bind (lawnext_ok h d) fun r5 q5 => ?_
  rw [e] at q4
  obtain rfl := q4.uniq q5
  refine post_bindE (same_ok r4) (post_if (fun z => by cases z) fun _ => ?_)
  refine post_bindE (progcount_ok g (by omega)) (post_bindE (lawcount_ok h (by omega)) (post_bindE (by rw [e]; exact int_ok _) (post_if (fun z => by cases z) fun _ => ?_)))
  refine post_bind (nth_ok g hk) fun r10 q10 => ?_
  rw [e] at q10
  exact post_bindE (lawnth_ok h q10) (post_ok rfl)
theorem named_ok {p q : List Nat × List Nat} (h : PS p) (g : PS q) (e : memb q = memb p) {d k : Nat} (hd : d < 2 ^ 101) (hk : k < 2 ^ 101) : m_law_named_holds (mkD q.1 q.2) p (d : Int) (k : Int) = .ok true := by
  refine isT ?_
  unfold m_law_named_holds
  refine post_bind (prognext_ok g d) fun r4 q4 => post_bind (lawnext_ok h d) fun r5 q5 => ?_
  rw [e] at q4
  obtain rfl := q4.uniq q5
  refine post_bindE (same_ok r4) (post_if (fun z => by cases z) fun _ => ?_)
  refine post_bindE (progcount_ok g (by omega)) (post_bindE (lawcount_ok h (by omega)) (post_bindE (by rw [e]; exact int_ok _) (post_if (fun z => by cases z) fun _ => ?_)))
  refine post_bind (nth_ok g hk) fun r10 q10 => ?_
  rw [e] at q10
  exact post_bindE (lawnth_ok h q10) (post_ok rfl)
/-! ### the whole set -/
theorem any_iff {p : List Nat × List Nat} (h : PS p) : (p.1.contains 49 || p.2.contains 49) = true ↔ ∃ t, memb p t = true := by
  rw [Bool.or_eq_true_iff, List.contains_iff_mem, List.contains_iff_mem]
  constructor
  · rintro (hm | hm)
    · obtain ⟨j, hj, e⟩ := List.mem_iff_getElem.mp hm
      have e2 : p.1[j]? = some 49 := by rw [List.getElem?_eq_getElem hj, e]
      rw [get1 h hj] at e2
      exact ⟨j, some49.mp e2⟩
    · obtain ⟨t, _, ht⟩ := inf (b := true) h hm 0
      exact ⟨t, ht⟩
  · rintro ⟨t, ht⟩
    by_cases hl : t < p.1.length
    · have e := get1 h hl
      rw [ht] at e
      exact .inl (List.mem_of_getElem? e)
    · refine .inr (Classical.byContradiction fun hm => ?_)
      rw [nof (b := true) h hm (by omega)] at ht
      cases ht
def GreatI (g : Nat → Bool) : Option Int → Prop
  | none => (∀ t, g t = false) ∨ ∀ n, ∃ t, n ≤ t ∧ g t = true
  | some x => ∃ t : Nat, x = (t : Int) ∧ g t = true ∧ ∀ u, t < u → g u = false
theorem GreatI.no {g : Nat → Bool} {t : Nat} (h : GreatI g none) (h1 : g t = true) (h2 : ∀ u, t < u → g u = false) : False := by
  rcases h with h | h
  · rw [h t] at h1
    cases h1
  · obtain ⟨u, hu, e⟩ := h (t + 1)
    rw [h2 u hu] at e
    cases e
theorem GreatI.uniq {g : Nat → Bool} : ∀ {r r' : Option Int}, GreatI g r → GreatI g r' → r = r'
  | none, none, _, _ => rfl
  | none, some _, h, ⟨t, _, h1, h2⟩ => (h.no h1 h2).elim
  | some _, none, ⟨t, _, h1, h2⟩, h => (h.no h1 h2).elim
  | some _, some _, ⟨t, e, h2, h3⟩, ⟨t', e', k2, k3⟩ => by
    subst e e'
    rcases Nat.lt_trichotomy t t' with h | h | h
    · rw [h3 t' h] at k2
      cases k2
    · rw [h]
    · rw [k3 t h] at h2
      cases h2
def SetI (g : Nat → Bool) : Option Int → Prop
  | none => ∀ n, ∃ t, n ≤ t ∧ g t = false
  | some x => ∃ n : Nat, x = (n : Int) ∧ (∀ t, n ≤ t → g t = true) ∧ (n = 0 ∨ g (n - 1) = false)
theorem SetI.uniq {g : Nat → Bool} : ∀ {r r' : Option Int}, SetI g r → SetI g r' → r = r'
  | none, none, _, _ => rfl
  | none, some _, h, ⟨n, _, h1, _⟩ => by
    obtain ⟨t, ht, e⟩ := h n
    rw [h1 t ht] at e
    cases e
  | some _, none, ⟨n, _, h1, _⟩, h => by
    obtain ⟨t, ht, e⟩ := h n
    rw [h1 t ht] at e
    cases e
  | some _, some _, ⟨t, e, h2, h3⟩, ⟨t', e', k2, k3⟩ => by
    subst e e'
    rcases Nat.lt_trichotomy t t' with h | h | h
    · rcases k3 with k3 | k3
      · omega
      · rw [h2 _ (by omega)] at k3
        cases k3
    · rw [h]
    · rcases h3 with h3 | h3
      · omega
      · rw [k2 _ (by omega)] at h3
        cases h3
theorem not_f {b : Bool} (h : some (bit b) ≠ some 48) : b = true := by cases b with
  | true => rfl
  | false => exact absurd rfl h
theorem gap_ok {p : List Nat × List Nat} (h : PS p) : (findX (p.1 ++ p.2) 48 < 0 → NextI (fun t => !memb p t) 0 none) ∧ (¬ findX (p.1 ++ p.2) 48 < 0 → NextI (fun t => !memb p t) 0 (some (findX (p.1 ++ p.2) 48))) := by
  have n0 := h.n0
  rw [findX_first]
  rcases firstF_cases (a := p.1 ++ p.2) (c := 48) 0 with ⟨e, hn⟩ | ⟨i, e, _, h2, h3⟩
  · rw [e]
    refine ⟨fun _ => ?_, fun z => absurd (by decide) z⟩
    have one : ∀ t, t < p.1.length + p.2.length → (!memb p t) = false := fun t ht => by
      have := hn t (Nat.zero_le _)
      rw [row2 h ht] at this
      rw [not_f this]
      rfl
    have k : ∀ t, p.1.length ≤ t → (!memb p t) = false := none_per (g := fun t => !memb p t) n0 (fun t ht => by
      show (!memb p (t + p.2.length)) = !memb p t
      rw [memb_per t ht]) fun x hx => one _ (by omega)
    show ∀ t, _ → _
    intro t _
    by_cases hl : t < p.1.length
    · exact one t (by omega)
    · exact k t (by omega)
  · rw [e]
    have hi := (List.getElem?_eq_some_iff.mp h2).1
    rw [List.length_append] at hi
    rw [row2 h hi] at h2
    refine ⟨fun z => by omega, fun _ => ⟨i, rfl, Nat.zero_le _, by show (!memb p i) = true; rw [some48.mp h2]; rfl, fun u _ u2 => ?_⟩⟩
    have := h3 u (Nat.zero_le _) u2
    rw [row2 h (by omega)] at this
    show (!memb p u) = false
    rw [not_f this]
    rfl
structure DO (p : List Nat × List Nat) : Prop extends PS p where
  nf : NF (sq p.1 p.2) p.1 p.2
theorem per1 {p : List Nat × List Nat} (h : PS p) {n : Nat} {b : Bool} (hb : ∀ t, n ≤ t → memb p t = b) : Per (sq p.1 p.2) n 1 := fun t ht => by
  rw [sq_bit h, sq_bit h, hb t ht, hb (t + 1) (by omega)]
theorem DO.one {p : List Nat × List Nat} (h : DO p) {b : Bool} (hm : bit (!b) ∉ p.2) : p.2 = [bit b] := by
  have hb : ∀ t, p.1.length ≤ t → memb p t = b := fun t ht => by
    rw [nof h.toPS hm ht, Bool.not_not]
  have hl := h.nf.can.low 1 (Nat.le_refl _) (per1 h.toPS hb)
  have n0 := h.n0
  have e := get2 h.toPS (show 0 < p.2.length from n0)
  rw [hb _ (by omega)] at e
  match hp : p.2, e with
  | [x], e =>
    have : x = bit b := Option.some.inj e
    rw [this]
  | [], _ => rw [hp] at n0; cases n0
  | x :: y :: l, _ =>
    rw [hp] at hl
    simp at hl
theorem DO.edge {p : List Nat × List Nat} (h : DO p) {b : Bool} (hp : p.2 = [bit b]) (hs : 1 ≤ p.1.length) : memb p (p.1.length - 1) = !b := by
  have hb : ∀ t, p.1.length ≤ t → memb p t = b := fun t ht => by
    rw [nof (b := !b) h.toPS (by rw [hp]; cases b <;> decide) ht, Bool.not_not]
  have hl : p.2.length = 1 := by rw [hp]; rfl
  have no : memb p (p.1.length - 1) ≠ b := fun e => by
    have pe : Per (sq p.1 p.2) (p.1.length - 1) 1 := per1 h.toPS fun t ht => by
      by_cases hl : p.1.length ≤ t
      · exact hb t hl
      · have : t = p.1.length - 1 := by omega
        rw [this]
        exact e
    have := h.nf.can.first (p.1.length - 1) (by rw [hl]; exact pe)
    omega
  cases e : memb p (p.1.length - 1) <;> cases b <;> first
    | rfl
    | exact absurd e no
theorem pgreat_ok {q : List Nat × List Nat} (h : DO q) : Post (m_DaySet__greatest (mkD q.1 q.2)) (GreatI (memb q)) := by
  unfold m_DaySet__greatest mkD
  dsimp only
  refine post_if (fun z => ?_) fun z => ?_
  · refine post_ok ?_
    rcases Bool.or_eq_true_iff.mp z with z | z
    · refine .inr fun n => inf (b := true) h.toPS (Classical.byContradiction fun hm => ?_) n
      have := h.one (b := false) hm
      rw [this] at z
      cases z
    · by_cases hm : 49 ∈ q.2
      · exact .inr fun n => inf (b := true) h.toPS hm n
      · have z := of_decide_eq_true z
        exact .inl fun t => nof (b := true) h.toPS hm (by omega)
  · have z1 : q.2 = [48] := Classical.byContradiction fun w => z (by simp [w])
    have z2 : ¬ ((q.1.length : Nat) : Int) = 0 := fun w => z (by simp [w])
    refine post_ok ⟨q.1.length - 1, by omega, ?_, fun u hu => ?_⟩
    · rw [h.edge (b := false) z1 (by omega)]
      rfl
    · refine nof (b := true) h.toPS ?_ (by omega)
      rw [z1]
      decide
theorem psettle_ok {q : List Nat × List Nat} (h : DO q) : Post (m_DaySet__settled_from (mkD q.1 q.2)) (SetI (memb q)) := by
  unfold m_DaySet__settled_from mkD
  dsimp only
  refine post_if (fun z => ?_) fun z => ?_
  · refine post_ok ?_
    show ∀ n, _
    intro n
    refine inf (b := false) h.toPS (Classical.byContradiction fun hm => ?_) n
    have := h.one (b := true) hm
    rw [this] at z
    cases z
  · have z1 : q.2 = [49] := Classical.byContradiction fun w => z (by simp [w])
    refine post_ok ⟨q.1.length, rfl, fun t ht => ?_, ?_⟩
    · refine nof (b := false) h.toPS ?_ ht
      rw [z1]
      decide
    · by_cases h0 : q.1.length = 0
      · exact .inl h0
      · right
        rw [h.edge (b := true) z1 (by omega)]
        rfl
theorem lgreat_ok {p : List Nat × List Nat} (h : PS p) : (p.2.contains 49 = true → GreatI (memb p) none) ∧ (rfindA p.1 49 < 0 → p.2.contains 49 = false → GreatI (memb p) none) ∧ (¬ rfindA p.1 49 < 0 → p.2.contains 49 = false → GreatI (memb p) (some (rfindA p.1 49))) := by
  have nc : p.2.contains 49 = false → 49 ∉ p.2 := fun z hm => by
    rw [List.contains_iff_mem.mpr hm] at z
    cases z
  refine ⟨fun z => .inr fun n => inf (b := true) h (List.contains_iff_mem.mp z) n, ?_⟩
  unfold rfindA
  rcases lastF_cases (a := p.1) (c := 49) p.1.length with ⟨e, hn⟩ | ⟨i, e, h1, h2, h3⟩
  · rw [e]
    refine ⟨fun _ z => .inl fun t => ?_, fun z => absurd (by decide) z⟩
    by_cases hl : t < p.1.length
    · have := hn t hl
      rw [get1 h hl] at this
      exact not_t this
    · exact nof (b := true) h (nc z) (by omega)
  · rw [e]
    refine ⟨fun z => by omega, fun _ z => ?_⟩
    rw [get1 h h1] at h2
    refine ⟨i, rfl, some49.mp h2, fun u hu => ?_⟩
    by_cases hl : u < p.1.length
    · have := h3 u hu hl
      rw [get1 h hl] at this
      exact not_t this
    · exact nof (b := true) h (nc z) (by omega)
theorem lsettle_ok {p : List Nat × List Nat} (h : PS p) : (p.2.contains 48 = true → SetI (memb p) none) ∧ (p.2.contains 48 = false → SetI (memb p) (some (rfindA p.1 48 + 1))) := by
  refine ⟨fun z => ?_, fun z => ?_⟩
  · show ∀ n, _
    exact fun n => inf (b := false) h (List.contains_iff_mem.mp z) n
  · have nc : 48 ∉ p.2 := fun hm => by
      rw [List.contains_iff_mem.mpr hm] at z
      cases z
    unfold rfindA
    rcases lastF_cases (a := p.1) (c := 48) p.1.length with ⟨e, hn⟩ | ⟨i, e, h1, h2, h3⟩
    · rw [e]
      refine ⟨0, rfl, fun t _ => ?_, .inl rfl⟩
      by_cases hl : t < p.1.length
      · have := hn t hl
        rw [get1 h hl] at this
        exact not_f this
      · exact nof (b := false) h nc (by omega)
    · rw [e]
      rw [get1 h h1] at h2
      refine ⟨i + 1, rfl, fun u hu => ?_, .inr (some48.mp h2)⟩
      by_cases hl : u < p.1.length
      · have := h3 u (by omega) hl
        rw [get1 h hl] at this
        exact not_f this
      · exact nof (b := false) h nc (by omega)
theorem pgap_ok {q : List Nat × List Nat} (h : PS q) : Post (m_DaySet__first_gap (mkD q.1 q.2)) (NextI (fun t => !memb q t) 0) := by
  have sz := h.sz
  unfold m_DaySet__first_gap mkD
  dsimp only
  refine post_bindE (catOk_ok (by omega)) (post_bindE rfl (post_if (fun z => post_ok ((gap_ok h).1 (of_decide_eq_true z))) fun z => post_ok ((gap_ok h).2 fun w => z (decide_eq_true w))))
theorem whole_ok {p q : List Nat × List Nat} (h : PS p) (g : DO q) (e : memb q = memb p) : m_law_whole_holds (mkD q.1 q.2) p = .ok true := by
  have sz := h.sz
  refine isT ?_
  unfold m_law_whole_holds
  refine post_bindE (catOk_ok (by omega)) (post_bindE rfl (post_bindE rfl ?_))
  refine post_jn (A := NextI (fun t => !memb p t) 0) (post_if (fun z => post_ok ((gap_ok h).1 (of_decide_eq_true z))) fun z => post_ok ((gap_ok h).2 fun w => z (decide_eq_true w))) fun s4 q4 => ?_
  obtain ⟨l1, l2, l3⟩ := lgreat_ok h
  obtain ⟨t1, t2⟩ := lsettle_ok h
  refine post_bindE rfl (post_bind (Q := fun b => (b = true → GreatI (memb p) none) ∧ (b = false → GreatI (memb p) (some (rfindA p.1 49)))) (post_if (fun z => post_ok ⟨fun _ => l1 z, fun w => by cases w⟩) fun z => ?_) fun r7 q7 => ?_)
  · have z : p.2.contains 49 = false := by simpa using z
    refine post_bindE rfl (post_ok ⟨fun w => l2 (of_decide_eq_true w) z, fun w => l3 (of_decide_eq_false w) z⟩)
  refine post_jn (A := GreatI (memb p)) (post_if (fun z => post_ok (q7.1 z)) fun z => post_ok (q7.2 (by simpa using z))) fun s9 q9 => ?_
  refine post_bindE rfl (post_jn (A := SetI (memb p)) (post_if (fun z => post_ok (t1 z)) fun z => post_ok (t2 (by simpa using z))) fun s11 q11 => ?_)
  have eb : (q.1.contains 49 || q.2.contains 49) = (p.1 ++ p.2).contains 49 := by
    rw [Bool.eq_iff_iff, any_iff g.toPS, e, ← any_iff h, List.contains_append]
  refine post_bindE rfl (post_bindE (catOk_ok (by omega)) (post_bindE (by show m_law_truth (q.1.contains 49 || q.2.contains 49) _ = _; rw [eb]; exact truth_ok _) (post_if (fun z => by cases z) fun _ => ?_)))
  refine post_bind (pgap_ok g.toPS) fun r15 q15 => ?_
  rw [e] at q15
  obtain rfl := q15.uniq q4
  refine post_bindE (same_ok _) (post_bind (Q := fun b => b = false) (post_if (fun z => by cases z) fun _ => ?_) fun b hb => ?_)
  · refine post_bind (pgreat_ok g) fun r17 q17 => ?_
    rw [e] at q17
    obtain rfl := q17.uniq q9
    exact post_bindE (same_ok _) (post_ok rfl)
  · subst hb
    refine post_if (fun z => by cases z) fun _ => ?_
    refine post_bind (psettle_ok g) fun r21 q21 => ?_
    rw [e] at q21
    obtain rfl := q21.uniq q11
    exact post_bindE (same_ok _) (post_ok rfl)

/-! ### sets made -/
theorem isE {α : Type} {m : Mr α} {x : α} (h : Post m fun r => r = x) : m = .ok x := by
  obtain ⟨b, e, rfl⟩ := h
  exact e
theorem due_ok {a b : List Nat} (h : a.length ≤ 100000) (g : b.length ≤ 100000) : m_law_as_due (res a b) (a, b) = .ok true := by
  unfold m_law_as_due res
  dsimp only
  rw [sizeP_ok (by omega), ok_bind, sizeP_ok (by omega), ok_bind]
  by_cases hc : 5000 < a.length + b.length
  · rw [if_pos (decide_eq_true (by omega)), if_pos hc]
    rfl
  · rw [if_neg (fun z => by have := of_decide_eq_true z; omega), if_neg hc]
    show ((if decide (([115, 101, 116] : List Nat) = [115, 101, 116]) = true then getL (.inl (mkD a b)) >>= fun r7 => m_law_shown r7 (a, b) >>= fun r8 => .ok r8 else .ok false : Mr Bool) >>= fun r9 => .ok r9) = _
    rw [if_pos (by decide)]
    unfold getL
    rw [ok_bind, shown_ok h g]
    rfl
def tryL (m : Mr (Rz Unit C_DaySet)) : Mr (List Nat × (C_DaySet ⊕ Int)) :=
  ((m >>= Rz.k (fun r => .ok (.out ([115, 101, 116], (.inl r : C_DaySet ⊕ Int)))) (fun x c => .ok (.exc x ()))) : Mr (Tn Unit Unit ((List Nat) × (C_DaySet ⊕ Int)))) >>= Tn.k (fun z => z) (fun _ => .error .stuck) (fun (x : Xc) (c : Unit) => if (fun n => n == 1) x.cls = true then (fun (x : Xc) (c : Unit) => (xInt x 0 >>= fun r =>
  .ok (.out ([108, 111, 110, 103], (.inr r : C_DaySet ⊕ Int))) : Mr (Jn Unit ((List Nat) × (C_DaySet ⊕ Int))))) x c >>= Jn.kE (fun z => z) (fun _ => .error .stuck) else (fun (x : Xc) (c : Unit) => .error .stuck) x c)
theorem tryL_ok {m : Mr (Rz Unit C_DaySet)} {a b : List Nat} (e : m = .ok (outc a b)) : tryL m = .ok (res a b) := by
  subst e
  unfold outc res
  split <;> rfl
/-- two writings of one sequence -/
theorem two_forms {l c l' c' : List Nat} (e : sq l c = sq l' c') (bl : Bits l) (bc : Bits c) (h0 : 1 ≤ c.length) (hl : l.length ≤ 100000) (hc : c.length ≤ 100000) (bl' : Bits l') (bc' : Bits c') (h0' : 1 ≤ c'.length) (hl' : l'.length ≤ 100000) (hc' : c'.length ≤ 100000) :
    ∃ a b, m_law_normal l c = .ok (a, b) ∧ m_DaySet____init__ () l' c' = .ok (outc a b) ∧ a.length ≤ 100000 ∧ b.length ≤ 100000 := by
  obtain ⟨a, b, ⟨nf, _, _, la, lb⟩, en, _⟩ := form2 bl bc h0 hl hc
  obtain ⟨a', b', ⟨nf', _, _, _, _⟩, _, ei⟩ := form2 bl' bc' h0' hl' hc'
  rw [← e] at nf'
  obtain ⟨rfl, rfl⟩ := nf.uniq nf'
  exact ⟨a, b, en, ei, by omega, by omega⟩
theorem bits48 : Bits [48] := bits_one (.inl rfl)
theorem rep_bits {x : Nat} (h : x = 48 ∨ x = 49) (n : Int) : Bits (repL [x] n) := (bits_one h).rep n
theorem rep_row {n : Nat} : repL [48] (n : Int) = rowB (fun _ => false) n := by
  unfold repL rowB
  rw [Int.toNat_natCast]
  refine List.ext_getElem? fun t => ?_
  by_cases ht : t < n
  · rw [flat_get (xs := [48]) (by decide) n t (by simp; omega)]
    simp [ht, bit, Nat.mod_one]
  · rw [List.getElem?_eq_none (by rw [flat_len]; simp; omega), List.getElem?_eq_none (by simp; omega)]
theorem rep_rows {n : Nat} : repL [[48]] (n : Int) = (rowB (fun _ => false) n).map fun c => [c] := by
  rw [← rep_row]
  unfold repL
  rw [Int.toNat_natCast]
  induction n with
  | zero => rfl
  | succ n ih =>
    rw [List.replicate_succ, List.replicate_succ, List.flatten_cons, List.flatten_cons, ih]
    rfl
theorem row_set {g : Nat → Bool} {n j : Nat} : (rowB g n).set j 49 = rowB (fun t => g t || t == j) n := by
  refine List.ext_getElem? fun t => ?_
  by_cases ht : t < n
  · rw [rowB_get ht, List.getElem?_set]
    by_cases hj : j = t
    · subst hj
      simp [rowB_len, ht, bit]
    · rw [if_neg hj, rowB_get ht]
      have : (t == j) = false := by simpa using fun e => hj e.symm
      rw [this, Bool.or_false]
  · rw [List.getElem?_eq_none (by rw [List.length_set, rowB_len]; omega), List.getElem?_eq_none (by rw [rowB_len]; omega)]
theorem row_congr {g h : Nat → Bool} {n : Nat} (e : ∀ t, t < n → g t = h t) : rowB g n = rowB h n := List.map_congr_left fun t ht => by rw [e t (List.mem_range.mp ht)]
theorem sq_row0 {g : Nat → Bool} {n : Nat} (h : ∀ t, n ≤ t → g t = false) : sq (rowB g n) [48] = fun t => some (bit (g t)) := funext fun t => by
  by_cases ht : t < n
  · rw [sq_lt (by rw [rowB_len]; exact ht), rowB_get ht]
  · rw [sq_ge (by rw [rowB_len]; omega), h t (by omega)]
    show [48][_ % 1]? = _
    rw [Nat.mod_one]
    rfl
def has (days : List Int) (t : Nat) : Bool := days.contains (t : Int)
theorem has_snoc {days : List Int} {k : Nat} {x : Int} (h : days[k]? = some x) (h0 : 0 ≤ x) (t : Nat) : has (days.take (k + 1)) t = (has (days.take k) t || t == x.toNat) := by
  unfold has
  rw [List.take_add_one, h, Bool.eq_iff_iff, Bool.or_eq_true_iff, List.contains_iff_mem, List.contains_iff_mem, List.mem_append]
  have e : ((t : Int) ∈ (some x).toList) ↔ (t == x.toNat) = true := by
    show (t : Int) ∈ [x] ↔ _
    rw [List.mem_singleton, beq_iff_eq]
    omega
  rw [e]
theorem foldmax {ns : List Int} : ∀ (n : Int), n ≤ ns.foldl (fun a b => if b > a then b else a) n ∧ (∀ y ∈ ns, y ≤ ns.foldl (fun a b => if b > a then b else a) n) ∧ ∀ M : Int, n ≤ M → (∀ y ∈ ns, y ≤ M) → ns.foldl (fun a b => if b > a then b else a) n ≤ M := by
  induction ns with
  | nil => exact fun n => ⟨Int.le_refl _, fun y hy => (by cases hy), fun M h _ => h⟩
  | cons m ns ih =>
    intro n
    rw [List.foldl_cons]
    obtain ⟨i1, i2, i3⟩ := ih (if m > n then m else n)
    have hb : n ≤ (if m > n then m else n) ∧ m ≤ (if m > n then m else n) := by split <;> omega
    refine ⟨by omega, fun y hy => ?_, fun M hM hy => i3 M ?_ fun y h => hy y (List.mem_cons_of_mem _ h)⟩
    · rcases List.mem_cons.mp hy with rfl | hy
      · omega
      · exact i2 y hy
    · have := hy m (List.mem_cons_self ..)
      split <;> omega
theorem maxD_b {days : List Int} (h : ∀ d ∈ days, 0 ≤ d ∧ d ≤ 20000) : (∀ d ∈ days, d ≤ maxD0 (-1) days) ∧ -1 ≤ maxD0 (-1) days ∧ maxD0 (-1) days ≤ 20000 := by
  cases days with
  | nil => exact ⟨fun d hd => (by cases hd), by decide, by decide⟩
  | cons n ns =>
    unfold maxD0
    obtain ⟨i1, i2, i3⟩ := foldmax (ns := ns) n
    have h0 := h n (List.mem_cons_self ..)
    refine ⟨fun d hd => ?_, by show -1 ≤ ns.foldl _ n; omega, i3 _ h0.2 fun y hy => (h y (List.mem_cons_of_mem _ hy)).2⟩
    rcases List.mem_cons.mp hd with rfl | hd
    · exact i1
    · exact i2 d hd
theorem only_ok {days : List Int} (h : ∀ d ∈ days, 0 ≤ d ∧ d ≤ 20000) (hln : days.length ≤ 100) : ∃ a b, m_law_only_due days = .ok (a, b) ∧ m_DaySet__only days = .ok (outc a b) ∧ a.length ≤ 100000 ∧ b.length ≤ 100000 := by
  obtain ⟨m1, m2, m3⟩ := maxD_b h
  obtain ⟨f1, f2, f3⟩ := foldmax (ns := days) 0
  have f3 := f3 20000 (by decide) fun y hy => (h y hy).2
  obtain ⟨M, hM⟩ : ∃ M : Nat, maxD0 (-1) days + 1 = (M : Int) := ⟨(maxD0 (-1) days + 1).toNat, by omega⟩
  obtain ⟨N, hN⟩ : ∃ N : Nat, 1 + days.foldl (fun a b => if b > a then b else a) 0 = (N : Int) := ⟨(1 + days.foldl (fun a b => if b > a then b else a) 0).toNat, by omega⟩
  have hall : days.take days.length = days := List.take_length
  have out : ∀ K : Nat, (∀ d ∈ days, d < (K : Int)) → ∀ t, K ≤ t → has days t = false := fun K hK t ht => by
    unfold has
    cases e : days.contains (t : Int) with
    | false => rfl
    | true =>
      have := hK _ (List.contains_iff_mem.mp e)
      omega
  have oM := out M fun d hd => by
    have := m1 d hd
    omega
  have oN := out N fun d hd => by
    have := f2 d hd
    omega
  obtain ⟨a, b, en, ei, la, lb⟩ := two_forms (l := rowB (has days) N) (c := [48]) (l' := rowB (has days) M) (c' := [48]) (by rw [sq_row0 oN, sq_row0 oM]) rowB_bits bits48 (by decide) (by rw [rowB_len]; omega) (by decide) rowB_bits bits48 (by decide) (by rw [rowB_len]; omega) (by decide)
  refine ⟨a, b, ?_, ?_, la, lb⟩
  · refine isE ?_
    unfold m_law_only_due
    have em : maxL ([(0 : Int)] ++ days) = .ok (days.foldl (fun a b => if b > a then b else a) 0) := rfl
    refine post_bindE (catOk_ok (by simp; omega)) (post_bindE em (post_bindE (by rw [hN]; exact repOk_nat (by omega) (by simp; omega)) (post_bindE rfl (post_stp (A := fun s => s = rowB (has days) N) (post_each (I := fun k s => s = rowB (has (days.take k)) N) ?_ ?_ fun s e => by rw [e, hall]) ?_))))
    · rw [hN]
      exact rep_row
    · rintro k s x hx rfl
      have hm := List.mem_of_getElem? hx
      have h0 := h x hm
      have hb := f2 x hm
      have hl : (rowB (has (days.take k)) N).length = N := rowB_len
      have c1 : cut (rowB (has (days.take k)) N) none (some x) = (rowB (has (days.take k)) N).take x.toNat := cut_to h0.1
      have c2 : cut (rowB (has (days.take k)) N) (some (x + 1)) none = (rowB (has (days.take k)) N).drop (x + 1).toNat := cut_from (by omega)
      have l1 : (cut (rowB (has (days.take k)) N) none (some x)).length ≤ N := by rw [c1, List.length_take]; omega
      have l2 : (cut (rowB (has (days.take k)) N) (some (x + 1)) none).length ≤ N := by rw [c2, List.length_drop]; omega
      refine post_bindE (sizeP_ok (by omega)) (post_bindE (catOk_ok (by simp; omega)) (post_bindE (sizeP_ok (by omega)) (post_bindE (catOk_ok (by rw [List.length_append]; simp; omega)) (post_bindE rfl (post_ok ?_)))))
      show _ = _
      rw [c1, c2]
      have e1 : (x + 1).toNat = x.toNat + 1 := by omega
      rw [e1, List.append_assoc]
      show (rowB (has (days.take k)) N).take x.toNat ++ 49 :: (rowB (has (days.take k)) N).drop (x.toNat + 1) = _
      have es := List.set_eq_take_append_cons_drop (l := rowB (has (days.take k)) N) (i := x.toNat) (a := 49)
      rw [if_pos (by rw [hl]; omega)] at es
      rw [← es, row_set]
      exact row_congr fun t _ => (has_snoc hx h0.1 t).symm
    · rintro s rfl
      exact post_bindE en (post_ok rfl)
  · refine isE ?_
    unfold m_DaySet__only
    refine post_bindE (by rw [hM]; exact repOk_nat (by omega) (by simp; omega)) (post_bindE rfl (post_stp (A := fun s => s = (rowB (has days) M).map fun c => [c]) (post_each (I := fun k s => s = (rowB (has (days.take k)) M).map fun c => [c]) ?_ ?_ fun s e => by rw [e, hall]) ?_))
    · rw [hM]
      exact rep_rows
    · rintro k s x hx rfl
      have hm := List.mem_of_getElem? hx
      have h0 := h x hm
      have hb := m1 x hm
      refine post_bind (post_setI h0.1 (by rw [List.length_map, rowB_len]; omega)) ?_
      rintro r rfl
      refine post_ok ?_
      show _ = _
      rw [← List.map_set (f := fun c => [c]), row_set]
      congr 1
      exact row_congr fun t _ => (has_snoc hx h0.1 t).symm
    · rintro s rfl
      refine post_bindE (joinOk_one (by rw [rowB_len]; omega)) ?_
      rw [join_one, ei]
      refine ⟨outc a b, ?_, rfl⟩
      unfold outc
      split <;> rfl
theorem om0 : m_law_only_made [] = tryL (m_DaySet__only []) := rfl
theorem om1 {a : Int} : m_law_only_made [a] = tryL (m_DaySet__only [a]) := rfl
theorem om2 {a b : Int} : m_law_only_made [a, b] = tryL (m_DaySet__only [a, b]) := rfl
theorem om3 {a b c : Int} : m_law_only_made [a, b, c] = tryL (m_DaySet__only [a, b, c]) := rfl
theorem om5 {a b c d e : Int} : m_law_only_made [a, b, c, d, e] = tryL (m_DaySet__only [a, b, c, d, e]) := rfl
theorem om8 {a b c d e f g h : Int} : m_law_only_made [a, b, c, d, e, f, g, h] = tryL (m_DaySet__only [a, b, c, d, e, f, g, h]) := rfl
theorem om {l : List Int} (h : l.length = 0 ∨ l.length = 1 ∨ l.length = 2 ∨ l.length = 3 ∨ l.length = 5 ∨ l.length = 8) : m_law_only_made l = tryL (m_DaySet__only l) := by
  match l, h with
  | [], _ => exact om0
  | [_], _ => exact om1
  | [_, _], _ => exact om2
  | [_, _, _], _ => exact om3
  | [_, _, _, _], h => simp at h
  | [_, _, _, _, _], _ => exact om5
  | [_, _, _, _, _, _], h => simp at h
  | [_, _, _, _, _, _, _], h => simp at h
  | [_, _, _, _, _, _, _, _], _ => exact om8
  | _ :: _ :: _ :: _ :: _ :: _ :: _ :: _ :: _ :: l, h => simp at h
theorem rz_same {m : Mr (Rz Unit C_DaySet)} {a b : List Nat} (e : m = .ok (outc a b)) : (m >>= Rz.k (fun r => .ok (.ret r)) (fun x c => .ok (.exc x ())) : Mr (Rz Unit C_DaySet)) = .ok (outc a b) := by
  rw [e]
  unfold outc
  split <;> rfl
theorem nf0 : NF (sq [] [48]) [] [48] := by
  refine ⟨⟨Nat.le_refl _, sq_per, fun q h _ => h, fun n _ => Nat.zero_le _⟩, fun i hi => (by cases hi), fun i hi => ?_⟩
  have : i = 0 := by
    have : i < 1 := hi
    omega
  subst this
  rfl
theorem span_ok {x y : Int} (hx : 0 ≤ x ∧ x ≤ 20000) (hy : 0 ≤ y ∧ y ≤ 20000) : ∃ a b, m_law_span_due x y = .ok (a, b) ∧ m_DaySet__span x y = .ok (outc a b) ∧ a.length ≤ 100000 ∧ b.length ≤ 100000 := by
  unfold m_law_span_due m_DaySet__span
  by_cases hl : y < x
  · rw [if_pos (decide_eq_true hl), if_pos (decide_eq_true hl)]
    exact ⟨[], [48], rfl, rz_same (init_ok (by decide) (by decide) (fun c hc => (by cases hc)) bits48 (by decide) nf0), by decide, by decide⟩
  · rw [if_neg (fun z => hl (of_decide_eq_true z)), if_neg (fun z => hl (of_decide_eq_true z))]
    have l1 : (repL [48] x).length = x.toNat := rep_one
    have l2 : (repL [49] (y - x + 1)).length = (y - x + 1).toNat := rep_one
    obtain ⟨a, b, ⟨_, _, _, la, lb⟩, en, ei⟩ := form2 (l := repL [48] x ++ repL [49] (y - x + 1)) (c := [48]) ((rep_bits (.inl rfl) _).app (rep_bits (.inr rfl) _)) bits48 (by decide) (by rw [List.length_append]; omega) (by decide)
    rw [List.length_append] at la
    have lb : b.length ≤ 1 := lb
    refine ⟨a, b, ?_, ?_, by omega, by omega⟩
    · rw [repOk_ok (by omega) (by omega) (by simp; omega), ok_bind, repOk_ok (by omega) (by omega) (by simp; omega), ok_bind, catOk_ok (by omega), ok_bind, en, ok_bind]
    · rw [repOk_ok (by omega) (by omega) (by simp; omega), ok_bind, repOk_ok (by omega) (by omega) (by simp; omega), ok_bind, catOk_ok (by omega), ok_bind]
      exact rz_same ei
theorem rng_off (s n : Nat) : rngI (s : Int) ((s : Int) + (n : Int)) = (List.range n).map fun (t : Nat) => (s : Int) + (t : Int) := by
  unfold rngI
  have : ((s : Int) + (n : Int) - (s : Int)).toNat = n := by omega
  rw [this]
theorem rng_zero (n : Nat) : rngI 0 (n : Int) = (List.range n).map fun (t : Nat) => (0 : Int) + (t : Int) := by
  have := rng_off 0 n
  simpa using this
theorem rows_one {f : Nat → Bool} {n : Nat} : (rowB f n).map (fun c => [c]) = (List.range n).map fun t => [bit (f t)] := by
  unfold rowB
  rw [List.map_map]
  rfl
theorem mapR_off {F : Int → Mr (List Nat)} {f : Nat → Bool} {s : Int} {n : Nat} (h : ∀ t, t < n → F (s + (t : Int)) = .ok [bit (f t)]) : mapR F ((List.range n).map fun (t : Nat) => s + (t : Int)) = .ok ((rowB f n).map fun c => [c]) := by
  rw [rows_one, mapR_ok (g := fun x => [bit (f (x - s).toNat)]) fun x hx => ?_, List.map_map]
  · congr 1
    refine List.map_congr_left fun t _ => ?_
    show [bit (f (s + (t : Int) - s).toNat)] = _
    have : (s + (t : Int) - s).toNat = t := by omega
    rw [this]
  · obtain ⟨t, ht, rfl⟩ := List.mem_map.mp hx
    rw [h t (List.mem_range.mp ht)]
    have : (s + (t : Int) - s).toNat = t := by omega
    rw [this]
theorem pick_bit (c : Bool) : getI [48, 49] (if c = true then 1 else 0) = .ok (bit c) := by cases c <;> rfl
theorem every_ok {n s : Nat} {at_ : Int} (hn : 1 ≤ n ∧ n ≤ 20000) (hs : s ≤ 20000) : ∃ a b, m_law_every_due (n : Int) at_ (s : Int) = .ok (a, b) ∧ m_DaySet__every (n : Int) at_ (s : Int) = .ok (outc a b) ∧ a.length ≤ 100000 ∧ b.length ≤ 100000 := by
  have l1 : (repL [48] (s : Int)).length = s := by rw [rep_one, Int.toNat_natCast]
  obtain ⟨a, b, ⟨_, _, _, la, lb⟩, en, ei⟩ := form2 (l := repL [48] (s : Int)) (c := rowB (fun t => decide (((s : Int) + (t : Int)) % (n : Int) = at_)) n) (rep_bits (.inl rfl) _) rowB_bits (by rw [rowB_len]; omega) (by omega) (by rw [rowB_len]; omega)
  rw [rowB_len] at lb
  refine ⟨a, b, ?_, ?_, by omega, by omega⟩
  · unfold m_law_every_due
    rw [rngP_pos (by omega) (by omega) (by omega) (by omega), ok_bind, sizeP_ok (by rw [rngI_len]; omega), ok_bind, rng_off, mapR_off (f := fun t => decide (((s : Int) + (t : Int)) % (n : Int) = at_)) (fun t ht => ?_), ok_bind, joinOk_one (by rw [rowB_len]; omega), ok_bind, ok_bind, repOk_ok (by omega) (by omega) (by simp; omega), ok_bind, join_one, en, ok_bind]
    rw [modP_ok (by omega), ok_bind, sizeP_ok (by decide), ok_bind, pick_bit, ok_bind]
  · unfold m_DaySet__every
    rw [rngP_pos (by omega) (by omega) (by omega) (by omega), ok_bind, sizeP_ok (by rw [rngI_len]; omega), ok_bind, rng_zero, mapR_off (f := fun t => decide (((s : Int) + (t : Int)) % (n : Int) = at_)) (fun t ht => ?_), ok_bind, repOk_ok (by omega) (by omega) (by simp; omega), ok_bind, joinOk_one (by rw [rowB_len]; omega), ok_bind, join_one]
    · exact rz_same ei
    · rw [Int.zero_add, modP_ok (by omega), ok_bind]
      by_cases hc : ((s : Int) + (t : Int)) % (n : Int) = at_
      · rw [if_pos (decide_eq_true hc), decide_eq_true hc]
        rfl
      · rw [if_neg (fun z => hc (of_decide_eq_true z)), decide_eq_false hc]
        rfl
theorem spanmade (nm : Bool) (x y : Int) : m_law_span_made nm x y = tryL (m_DaySet__span x y) := by cases nm <;> rfl
theorem everymade {form n at_ s : Int} (hf : 0 ≤ form) : m_law_every_made form n at_ s = tryL (m_DaySet__every n (if form = 0 ∨ form = 2 then 0 else at_) (if form < 2 then 0 else s)) := by
  by_cases h0 : form = 0
  · subst h0
    rfl
  · by_cases h1 : form = 1
    · subst h1
      rfl
    · by_cases h2 : form = 2
      · subst h2
        rfl
      · unfold m_law_every_made
        rw [if_neg (fun z => h0 (of_decide_eq_true z)), if_neg (fun z => h1 (of_decide_eq_true z)), if_neg (fun z => h2 (of_decide_eq_true z)), if_neg (by omega), if_neg (by omega)]
        rfl
/-! ### the draws -/
theorem wide_ok {b : H_law_box} (h : BoxI b) : Post (m_law_wide b) fun r => (0 ≤ r.1 ∧ r.1 < 2 ^ 100) ∧ BoxI r.2 := by
  unfold m_law_wide
  refine post_bindE rfl ?_
  refine post_stp (A := fun s : Int × H_law_box => (0 ≤ s.1 ∧ s.1 < 2 ^ 100) ∧ BoxI s.2) (post_rng (I := fun x s => (0 ≤ s.1 ∧ s.1 < 100000 ^ x.toNat) ∧ BoxI s.2) (by decide) ⟨⟨Int.le_refl _, (by decide : (0 : Int) < 1)⟩, h⟩ (fun x s x0 x6 hs => ?_) fun s hs => ?_) fun s hs => post_ok hs
  · refine post_bind (take_ok hs.2 (by decide) (by decide)) fun r4 q4 => post_bindE rfl (post_ok ?_)
    have e : (x + 1).toNat = x.toNat + 1 := by omega
    obtain ⟨⟨h1, h2⟩, _⟩ := hs
    refine ⟨⟨?_, ?_⟩, q4.2⟩
    · show 0 ≤ s.1 * 100000 + r4.1
      omega
    · show s.1 * 100000 + r4.1 < _
      rw [e, Int.pow_succ]
      omega
  · obtain ⟨⟨h1, h2⟩, h3⟩ := hs
    refine ⟨⟨h1, Int.lt_trans h2 ?_⟩, h3⟩
    decide
theorem drawn_ok {b : H_law_box} (h : BoxI b) : Post (m_law_drawn b) fun r => PS r.1 ∧ BoxI r.2 := by
  unfold m_law_drawn
  refine post_bind (take_ok h (by decide) (by decide)) fun r1 q1 => post_if (fun _ => ?_) fun _ => ?_
  · refine post_bind (take_ok q1.2 (by decide) (by decide)) fun r2 q2 => post_bind (bits_ok q2.2 (by omega) (by omega)) fun r3 q3 => post_bind (take_ok q3.2 (by decide) (by decide)) fun r4 q4 => post_bindE rfl (post_bind (take_ok q4.2 (by decide) (by decide)) fun r6 q6 => post_bind (bits_ok q6.2 (by omega) (by omega)) fun r7 q7 => ?_)
    have w3 : r3.1.length ≤ 7 ∧ 1 ≤ r3.1.length := by omega
    have w7 : r7.1.length ≤ 3 := by omega
    have c1 : (repL r7.1 2500).length = r7.1.length * 2500 := repL_len
    have c2 : (repL r3.1 (1 + r4.1)).length = r3.1.length * (1 + r4.1).toNat := repL_len
    have c3 : r3.1.length * (1 + r4.1).toNat ≤ 7 * 2500 := mul_le' w3.1 (by omega)
    have c4 : 1 * (1 + r4.1).toNat ≤ r3.1.length * (1 + r4.1).toNat := mul_le' w3.2 (Nat.le_refl _)
    refine post_bindE (repOk_ok (by decide) (by decide) (by show _ * 2500 ≤ _; omega)) (post_bindE (sizeP_ok (by omega)) (post_bind (take_ok q7.2 (by decide) (by decide)) fun r10 q10 => post_bindE (repOk_ok (by omega) (by omega) (by omega)) (post_bindE (sizeP_ok (by omega)) (post_ok ⟨⟨(q7.1.1.rep _).cut _ _, (q3.1.1.rep _).cut _ _, ?_, ?_⟩, q10.2⟩))))
    · show 1 ≤ (cut _ none (some _)).length
      rw [cut_to (by omega), List.length_take]
      omega
    · show (cut _ none (some _)).length + (cut _ none (some _)).length ≤ 5000
      rw [cut_to (by omega), List.length_take, cut_to (by omega), List.length_take]
      omega
  · refine post_bind (take_ok q1.2 (by decide) (by decide)) fun r13 q13 => post_bind (bits_ok q13.2 (by omega) (by omega)) fun r14 q14 => ?_
    refine post_if (fun _ => ?_) fun _ => post_if (fun _ => ?_) fun _ => ?_
    · refine post_bind (take_ok q14.2 (by decide) (by decide)) fun r15 q15 => post_bindE (repOk_ok (by omega) (by omega) (by simp; omega)) (post_ok ⟨⟨q14.1.1, rep_bits (.inl rfl) _, ?_, ?_⟩, q15.2⟩)
      · show 1 ≤ (repL _ _).length
        rw [rep_one]
        omega
      · show r14.1.length + (repL _ _).length ≤ 5000
        rw [rep_one]
        omega
    · refine post_bind (take_ok q14.2 (by decide) (by decide)) fun r15 q15 => post_bindE (repOk_ok (by omega) (by omega) (by simp; omega)) (post_ok ⟨⟨q14.1.1, rep_bits (.inr rfl) _, ?_, ?_⟩, q15.2⟩)
      · show 1 ≤ (repL _ _).length
        rw [rep_one]
        omega
      · show r14.1.length + (repL _ _).length ≤ 5000
        rw [rep_one]
        omega
    · refine post_bind (take_ok q14.2 (by decide) (by decide)) fun r19 q19 => post_bind (bits_ok q19.2 (by omega) (by omega)) fun r20 q20 => post_bind (take_ok q20.2 (by decide) (by decide)) fun r21 q21 => ?_
      have w : r20.1.length ≤ 12 ∧ 1 ≤ r20.1.length := by omega
      have c2 : (repL r20.1 (1 + r21.1)).length = r20.1.length * (1 + r21.1).toNat := repL_len
      have c3 : r20.1.length * (1 + r21.1).toNat ≤ 12 * 3 := mul_le' w.1 (by omega)
      have c4 : 1 * 1 ≤ r20.1.length * (1 + r21.1).toNat := mul_le' w.2 (by omega)
      refine post_bindE (repOk_ok (by omega) (by omega) (by omega)) (post_ok ⟨⟨q14.1.1, q20.1.1.rep _, ?_, ?_⟩, q21.2⟩)
      · show 1 ≤ (repL _ _).length
        omega
      · show r14.1.length + (repL _ _).length ≤ 5000
        omega
theorem number_ok {b : H_law_box} {p : List Nat × List Nat} {s : Int} (h : BoxI b) (hp : PS p) (h0 : 0 ≤ s) (h1 : s ≤ 5000) : Post (m_law_number b p s) fun r => (0 ≤ r.1 ∧ r.1 < 2 ^ 101) ∧ BoxI r.2 := by
  have n0 := hp.n0
  have sz := hp.sz
  unfold m_law_number
  refine post_bind (take_ok h (by decide) (by decide)) fun r1 q1 => post_if (fun _ => ?_) fun _ => post_if (fun _ => ?_) fun _ => post_if (fun _ => ?_) fun _ => post_if (fun _ => ?_) fun _ => post_if (fun _ => ?_) fun _ => ?_
  · refine post_bindE (sizeP_ok (by omega)) (post_bind (take_ok q1.2 (by omega) (by omega)) fun r3 q3 => post_ok ⟨⟨?_, ?_⟩, q3.2⟩)
    · show 0 ≤ s + r3.1
      omega
    · show s + r3.1 < _
      omega
  · refine post_ok ⟨⟨?_, ?_⟩, q1.2⟩
    · show 0 ≤ (if s - 1 > 0 then s - 1 else (0 : Int))
      split <;> omega
    · show (if s - 1 > 0 then s - 1 else (0 : Int)) < _
      split <;> omega
  · exact post_bind (wide_ok q1.2) fun r4 q4 => post_ok ⟨⟨q4.1.1, by omega⟩, q4.2⟩
  · refine post_bind (take_ok q1.2 (by decide) (by decide)) fun r5 q5 => post_ok ⟨⟨?_, ?_⟩, q5.2⟩
    · show 0 ≤ (10 : Int) ^ 30 - 1 - r5.1
      omega
    · show (10 : Int) ^ 30 - 1 - r5.1 < _
      omega
  · exact post_bind (take_ok q1.2 (by decide) (by decide)) fun r6 q6 => post_ok ⟨⟨q6.1.1, by omega⟩, q6.2⟩
  · refine post_bindE (sizeP_ok (by omega)) (post_bind (take_ok q1.2 (by omega) (by omega)) fun r8 q8 => post_ok ⟨⟨q8.1.1, by omega⟩, q8.2⟩)
def Days (l : List Int) : Prop := (l.length = 0 ∨ l.length = 1 ∨ l.length = 2 ∨ l.length = 3 ∨ l.length = 5 ∨ l.length = 8) ∧ ∀ d ∈ l, 0 ≤ d ∧ d ≤ 20000
theorem sizes_ok {i : Int} (h0 : 0 ≤ i) (h : i < 6) : Post (getI ([(0 : Int), 1, 2, 3, 5, 8] : List Int) i) fun n => n = 0 ∨ n = 1 ∨ n = 2 ∨ n = 3 ∨ n = 5 ∨ n = 8 := by
  refine post_mono (getL_mem h0 h) fun x hx => ?_
  simpa using hx
theorem days_ok {b : H_law_box} (h : BoxI b) : Post (m_law_only_days b) fun r => Days r.1 ∧ BoxI r.2 := by
  unfold m_law_only_days
  refine post_bind (take_ok h (by decide) (by decide)) fun r1 q1 => post_bind (take_ok q1.2 (by decide) (by decide)) fun r2 q2 => post_bindE rfl (post_bind (sizes_ok q1.1.1 q1.1.2) fun r4 q4 => post_bindE (rngP_pos (by decide) (by decide) (by omega) (by omega)) ?_)
  refine post_stp (A := fun s : H_law_box × List Int => BoxI s.1 ∧ (s.2.length : Int) = r4 ∧ ∀ d ∈ s.2, 0 ≤ d ∧ d ≤ 20000) (post_rng (I := fun x s => BoxI s.1 ∧ (s.2.length : Int) = x ∧ ∀ d ∈ s.2, 0 ≤ d ∧ d ≤ 20000) (by omega) ⟨q2.2, rfl, fun d hd => (by cases hd)⟩ (fun x s x0 x1 hs => ?_) fun s hs => hs) fun s hs => ?_
  · obtain ⟨hb, hl, hd⟩ := hs
    have hl : (s.2.length : Int) = x := hl
    refine post_bind (take_ok hb (by decide) (by decide)) fun r8 q8 => post_bindE (growOk_ok (by show s.2.length < _; omega)) ?_
    have hd2 : ∀ d ∈ s.2 ++ [r8.1], 0 ≤ d ∧ d ≤ 20000 := fun d hm => by
      rcases List.mem_append.mp hm with hm | hm
      · exact hd d hm
      · rw [List.mem_singleton.mp hm]
        omega
    have hl2 : ((s.2 ++ [r8.1]).length : Int) = x + 1 := by
      rw [List.length_append]
      show ((s.2.length + 1 : Nat) : Int) = _
      have : (s.2.length : Int) = x := hl
      omega
    refine post_bind (Q := fun r : Bool × H_law_box => BoxI r.2 ∧ (r.1 = true → 0 < x)) (post_if (fun z => ?_) fun _ => post_ok ⟨q8.2, fun z => by cases z⟩) fun r12 q12 => post_if (fun z => ?_) fun _ => post_ok ⟨q12.1, hl2, hd2⟩
    · exact post_bind (take_ok q8.2 (by decide) (by decide)) fun r10 q10 => post_ok ⟨q10.2, fun _ => of_decide_eq_true z⟩
    · have hx := q12.2 z
      refine post_bind (take_ok q12.1 hx (by omega)) fun r14 q14 => post_bind (getL_mem q14.1.1 (by omega)) fun r15 q15 => post_bind (post_setI x0 (by omega)) ?_
      rintro r16 rfl
      refine post_ok ⟨q14.2, by show ((List.set _ _ _).length : Int) = _; rw [List.length_set]; exact hl2, fun d hm => ?_⟩
      rcases List.mem_or_eq_of_mem_set hm with hm | rfl
      · exact hd2 d hm
      · exact hd2 _ q15
  · obtain ⟨hb, hl, hd⟩ := hs
    have hl : (s.2.length : Int) = r4 := hl
    refine post_jn (A := fun s : H_law_box × List Int => BoxI s.1 ∧ (s.2.length : Int) = r4 ∧ ∀ d ∈ s.2, 0 ≤ d ∧ d ≤ 20000) (post_if (fun z => ?_) fun _ => post_ok ⟨hb, hl, hd⟩) fun s hs => ?_
    · obtain ⟨z1, z2⟩ := Bool.and_eq_true_iff.mp z
      have z1 := of_decide_eq_true z1
      have z2 : (0 : Int) < (s.2.length : Int) := of_decide_eq_true z2
      refine post_bind (getL_mem q2.1.1 z1) fun r17 q17 => post_bind (take_ok hb (by decide) (by decide)) fun r18 q18 => post_bind (take_ok q18.2 z2 (by omega)) fun r19 q19 => post_bind (post_setI q19.1.1 q19.1.2) ?_
      rintro r20 rfl
      refine post_ok ⟨q19.2, by show ((List.set _ _ _).length : Int) = _; rw [List.length_set]; exact hl, fun d hm => ?_⟩
      rcases List.mem_or_eq_of_mem_set hm with hm | rfl
      · exact hd d hm
      · simp only [List.mem_cons, List.not_mem_nil, or_false] at q17
        omega
    · obtain ⟨hb, hl, hd⟩ := hs
      have hl : (s.2.length : Int) = r4 := hl
      exact post_ok ⟨⟨by show s.2.length = 0 ∨ s.2.length = 1 ∨ s.2.length = 2 ∨ s.2.length = 3 ∨ s.2.length = 5 ∨ s.2.length = 8; omega, hd⟩, hb⟩
theorem bound_ok {b : H_law_box} (h : BoxI b) : Post (m_law_bound_day b) fun r => (0 ≤ r.1 ∧ r.1 ≤ 20000) ∧ BoxI r.2 := by
  unfold m_law_bound_day
  refine post_bind (take_ok h (by decide) (by decide)) fun r1 q1 => post_if (fun _ => ?_) fun _ => post_if (fun _ => ?_) fun _ => ?_
  · exact post_bind (take_ok q1.2 (by decide) (by decide)) fun r2 q2 => post_ok ⟨⟨by show 0 ≤ 4996 + r2.1; omega, by show 4996 + r2.1 ≤ _; omega⟩, q2.2⟩
  · exact post_bind (take_ok q1.2 (by decide) (by decide)) fun r2 q2 => post_ok ⟨⟨by show 0 ≤ 9990 + r2.1; omega, by show 9990 + r2.1 ≤ _; omega⟩, q2.2⟩
  · exact post_bind (take_ok q1.2 (by decide) (by decide)) fun r2 q2 => post_ok ⟨⟨q2.1.1, by omega⟩, q2.2⟩
theorem length_ok {b : H_law_box} (h : BoxI b) : Post (m_law_length b) fun r => (1 ≤ r.1 ∧ r.1 ≤ 20000) ∧ BoxI r.2 := by
  unfold m_law_length
  refine post_bind (take_ok h (by decide) (by decide)) fun r1 q1 => post_if (fun _ => ?_) fun _ => post_if (fun _ => ?_) fun _ => ?_
  · exact post_bind (take_ok q1.2 (by decide) (by decide)) fun r2 q2 => post_ok ⟨⟨by show 1 ≤ 4990 + r2.1; omega, by show 4990 + r2.1 ≤ _; omega⟩, q2.2⟩
  · exact post_bind (take_ok q1.2 (by decide) (by decide)) fun r2 q2 => post_ok ⟨⟨by show 1 ≤ 1 + r2.1; omega, by show 1 + r2.1 ≤ _; omega⟩, q2.2⟩
  · exact post_bind (take_ok q1.2 (by decide) (by decide)) fun r2 q2 => post_ok ⟨⟨by show 1 ≤ 1 + r2.1; omega, by show 1 + r2.1 ≤ _; omega⟩, q2.2⟩
theorem begin_ok {b : H_law_box} (h : BoxI b) : Post (m_law_begin b) fun r => (0 ≤ r.1 ∧ r.1 ≤ 20000) ∧ BoxI r.2 := by
  unfold m_law_begin
  refine post_bind (take_ok h (by decide) (by decide)) fun r1 q1 => post_if (fun _ => ?_) fun _ => post_if (fun _ => ?_) fun _ => ?_
  · exact post_bind (take_ok q1.2 (by decide) (by decide)) fun r2 q2 => post_ok ⟨⟨by show 0 ≤ 10000 - r2.1; omega, by show 10000 - r2.1 ≤ _; omega⟩, q2.2⟩
  · exact post_bind (take_ok q1.2 (by decide) (by decide)) fun r2 q2 => post_ok ⟨⟨by show 0 ≤ 4980 + r2.1; omega, by show 4980 + r2.1 ≤ _; omega⟩, q2.2⟩
  · exact post_bind (take_ok q1.2 (by decide) (by decide)) fun r2 q2 => post_ok ⟨⟨q2.1.1, by omega⟩, q2.2⟩
theorem made_ok {b : H_law_box} (h : BoxI b) : Post (m_law_made_hold b) fun r => r.1 = true := by
  unfold m_law_made_hold
  refine post_bind (days_ok h) fun r1 q1 => ?_
  obtain ⟨a, c, e1, e2, la, lc⟩ := only_ok q1.1.2 (by have := q1.1.1; omega)
  refine post_bindE (by rw [om q1.1.1]; exact tryL_ok e2) (post_bindE e1 (post_bindE (due_ok la lc) (post_if (fun z => by cases z) fun _ => ?_)))
  refine post_bind (bound_ok q1.2) fun r5 q5 => post_bind (bound_ok q5.2) fun r6 q6 => post_bind (take_ok q6.2 (by decide) (by decide)) fun r7 q7 => ?_
  obtain ⟨a, c, e1, e2, la, lc⟩ := span_ok q5.1 q6.1
  refine post_bindE (by rw [spanmade]; exact tryL_ok e2) (post_bindE e1 (post_bindE (due_ok la lc) (post_if (fun z => by cases z) fun _ => ?_)))
  refine post_bind (length_ok q7.2) fun r11 q11 => post_bind (take_ok q11.2 (by omega) (by omega)) fun r12 q12 => post_bind (begin_ok q12.2) fun r13 q13 => ?_
  obtain ⟨n, hn⟩ : ∃ n : Nat, r11.1 = (n : Int) := ⟨r11.1.toNat, by omega⟩
  obtain ⟨s, hs⟩ : ∃ s : Nat, (if r7.1 < 2 then 0 else r13.1) = (s : Int) := ⟨(if r7.1 < 2 then 0 else r13.1).toNat, by split <;> omega⟩
  have hs2 : s ≤ 20000 := by
    split at hs <;> omega
  obtain ⟨a, c, e1, e2, la, lc⟩ := every_ok (n := n) (s := s) (at_ := if r7.1 = 0 ∨ r7.1 = 2 then 0 else r12.1) (by omega) hs2
  refine post_bindE (by rw [everymade q7.1.1, hn, hs]; exact tryL_ok e2) ?_
  refine post_jn (A := fun x => x = if r7.1 = 0 ∨ r7.1 = 2 then 0 else r12.1) (post_if (fun z => post_bindE rfl (post_ok ?_)) fun z => post_ok ?_) ?_
  · have z : r7.1 = 0 ∨ r7.1 = 2 := by simpa using z
    show _ = _
    rw [if_pos z]
  · have z : ¬ (r7.1 = 0 ∨ r7.1 = 2) := by simpa using z
    show _ = _
    rw [if_neg z]
  · rintro _ rfl
    refine post_jn (A := fun x => x = (s : Int)) (post_if (fun z => post_bindE rfl (post_ok ?_)) fun z => post_ok ?_) ?_
    · show _ = _
      rw [← hs, if_pos (of_decide_eq_true z)]
    · show _ = _
      rw [← hs, if_neg (fun w => z (decide_eq_true w))]
    · rintro _ rfl
      rw [hn]
      exact post_bindE e1 (post_bindE (due_ok la lc) (post_ok rfl))

/-! ### the law -/
theorem PS.form {p : List Nat × List Nat} (h : PS p) : ∃ a b, DO (a, b) ∧ memb (a, b) = memb p ∧ m_DaySet____init__ () p.1 p.2 = .ok (.ret (mkD a b)) := by
  have z := h.sz
  obtain ⟨a, b, ⟨nf, ba, bb, la, lb⟩, en, ei⟩ := form2 h.b1 h.b2 h.n0 (by omega) (by omega)
  have zz : a.length + b.length ≤ 5000 := by omega
  rw [outc_small zz] at ei
  refine ⟨a, b, ⟨⟨ba, bb, nf.can.pos, zz⟩, nf.self⟩, funext fun t => ?_, ei⟩
  unfold memb
  rw [nf.eq t]
def Ns (l : List Int) : Prop := l.length = 4 ∧ ∀ d ∈ l, 0 ≤ d ∧ d < 2 ^ 101
theorem four {b : H_law_box} {p : List Nat × List Nat} {s : Int} {F : H_law_box → Int → Mr (Int × H_law_box)} (h : BoxI b) (hF : ∀ b x, BoxI b → Post (F b x) fun r => (0 ≤ r.1 ∧ r.1 < 2 ^ 101) ∧ BoxI r.2) : Post (mapS F (rngI 0 4) b) fun r => Ns r.1 ∧ BoxI r.2 :=
  post_mono (post_mapS (I := BoxI) (B := fun d => 0 ≤ d ∧ d < 2 ^ 101) h fun s x _ hs => hF s x hs) fun r q => ⟨⟨by rw [q.1, rngI_len]; rfl, q.2.1⟩, q.2.2⟩
theorem law_true (ns : List Int) (_h : ns.length ≤ 63) : m_law ns = .ok true := by
  refine isT ?_
  unfold m_law
  refine post_bind (box_ok ns) fun r1 q1 => post_bind (drawn_ok q1) fun r2 q2 => post_bind (drawn_ok q2.2) fun r3 q3 => post_bindE rfl (post_bindE rfl ?_)
  refine post_stp (A := fun s : H_law_box × List (List Int) => BoxI s.1 ∧ s.2.length = 4 ∧ ∀ l ∈ s.2, Ns l) (post_each (I := fun k s => BoxI s.1 ∧ s.2.length = 2 * k ∧ ∀ l ∈ s.2, Ns l) ⟨q3.2, rfl, fun l hl => (by cases hl)⟩ (fun k s x hx hs => ?_) fun s hs => hs) fun s hs => ?_
  · obtain ⟨hb, hl, hd⟩ := hs
    have hl : s.2.length = 2 * k := hl
    have hk : k < 2 := (List.getElem?_eq_some_iff.mp hx).1
    have hm := List.mem_of_getElem? hx
    have px : PS x := by
      simp only [List.mem_cons, List.not_mem_nil, or_false] at hm
      rcases hm with rfl | rfl
      · exact q2.1
      · exact q3.1
    have z := px.sz
    have c1 : x.1.count 49 ≤ x.1.length := count_le
    refine post_bind (four (p := x) (s := 0) hb fun b y hb => post_bindE (sizeP_ok (by omega)) (post_bind (number_ok hb px (by omega) (by omega)) fun r q => post_ok q)) fun r14 q14 => post_bindE (growOk_ok (by omega)) ?_
    refine post_bind (four (p := x) (s := 0) q14.2 fun b y hb => post_bind (number_ok hb px (by omega) (by omega)) fun r q => post_ok q) fun r23 q23 => post_bindE (growOk_ok (by rw [List.length_append]; show s.2.length + 1 < _; omega)) (post_ok ⟨q23.2, ?_, fun l hm => ?_⟩)
    · show ((s.2 ++ [r14.1]) ++ [r23.1]).length = 2 * (k + 1)
      rw [List.length_append, List.length_append, hl]
      rfl
    · rcases List.mem_append.mp hm with hm | hm
      · rcases List.mem_append.mp hm with hm | hm
        · exact hd l hm
        · rw [List.mem_singleton.mp hm]
          exact q14.1
      · rw [List.mem_singleton.mp hm]
        exact q23.1
  · obtain ⟨hb, hl, hd⟩ := hs
    refine post_bind (made_ok hb) fun r28 q28 => post_if (fun z => by rw [q28] at z; cases z) fun _ => ?_
    obtain ⟨a1, e1, d1, m1, i1⟩ := q2.1.form
    obtain ⟨a2, e2, d2, m2, i2⟩ := q3.1.form
    refine post_bindE (a := r2.1) rfl (post_bindE (a := r2.1) rfl ?_)
    rw [i1, rz_ret]
    refine post_bindE (a := r3.1) rfl (post_bindE (a := r3.1) rfl ?_)
    rw [i2, rz_ret]
    refine post_bindE rfl (post_stp (A := fun _ => True) (post_rng (I := fun _ _ => True) (by decide) trivial (fun x37 _ x0 x5 _ => post_bindE rfl ?_) fun _ _ => trivial) fun _ _ => post_ok rfl)
    refine post_stp (A := fun _ => True) (post_rng (I := fun _ _ => True) (by decide) trivial (fun x40 _ y0 y2 _ => ?_) fun _ _ => trivial) fun _ _ => post_ok trivial
    have k0 : 0 ≤ x37 % 4 := Int.emod_nonneg _ (by decide)
    have k4 : x37 % 4 < 4 := Int.emod_lt_of_pos _ (by decide)
    refine post_bind (getL_mem (by omega) (by omega)) fun r41 q41 => ?_
    have n41 := hd _ q41
    refine post_bind (getL_mem k0 (by rw [n41.1]; exact k4)) fun r42 q42 => ?_
    have n42 := n41.2 _ q42
    refine post_bind (getL_mem (by omega) (by omega)) fun r43 q43 => ?_
    have n43 := hd _ q43
    refine post_bind (getL_mem k0 (by rw [n43.1]; exact k4)) fun r44 q44 => ?_
    have n44 := n43.2 _ q44
    obtain ⟨d, rfl⟩ : ∃ d : Nat, r42 = (d : Int) := ⟨r42.toNat, by omega⟩
    obtain ⟨k, rfl⟩ : ∃ k : Nat, r44 = (k : Int) := ⟨r44.toNat, by omega⟩
    have fin : ∀ (D : C_DaySet) (P : List Nat × List Nat) (q : List Nat × List Nat), getI [mkD a1 e1, mkD a2 e2] x40 = .ok D → getI [r2.1, r3.1] x40 = .ok P → D = mkD q.1 q.2 → PS P → DO q → memb q = memb P →
        Post (getI [mkD a1 e1, mkD a2 e2] x40 >>= fun r45 => getI [r2.1, r3.1] x40 >>= fun r46 => m_law_day_holds r45 r46 (d : Int) (k : Int) >>= fun r47 =>
          (if (!r47) = true then
          .ok (.out (.out false))
          else
          ((if (decide ((2 : Int) < x37)) = true then getI [mkD a1 e1, mkD a2 e2] x40 >>= fun r48 => getI [r2.1, r3.1] x40 >>= fun r49 => m_law_named_holds r48 r49 (d : Int) (k : Int) >>= fun r50 => .ok (!r50) else .ok false) : Mr Bool) >>= fun r51 =>
          (if r51 = true then
          .ok (.out (.out false))
          else
          getI [mkD a1 e1, mkD a2 e2] x40 >>= fun r53 =>
          getI [r2.1, r3.1] x40 >>= fun r54 =>
          m_law_whole_holds r53 r54 >>= fun r55 =>
          (if (!r55) = true then
          .ok (.out (.out false))
          else
          (.ok (.go ()) : Mr (Stp Unit (Stp Unit Bool))))))) (SQ (fun _ => True) (fun _ => True) (SQ (fun _ => True) (fun _ => True) fun b => b = true)) := by
      rintro D P q eD eP rfl hP hq em
      refine post_bindE eD (post_bindE eP (post_bindE (day_ok hP hq.toPS em (by omega) (by omega)) (post_if (fun z => by cases z) fun _ => ?_)))
      refine post_bind (Q := fun b => b = false) (post_if (fun _ => post_bindE eD (post_bindE eP (post_bindE (named_ok hP hq.toPS em (by omega) (by omega)) (post_ok rfl)))) fun _ => post_ok rfl) ?_
      rintro _ rfl
      exact post_if (fun z => by cases z) fun _ => post_bindE eD (post_bindE eP (post_bindE (whole_ok hP hq em) (post_if (fun z => by cases z) fun _ => post_ok trivial)))
    have hx : x40 = 0 ∨ x40 = 1 := by omega
    rcases hx with rfl | rfl
    · exact fin _ _ (a1, e1) rfl rfl rfl q2.1 d1 m1
    · exact fin _ _ (a2, e2) rfl rfl rfl q3.1 d2 m2

end K02

namespace K02
open PySem PySem.Spec PyProof.Rows L2 TL
def top (i : Nat) : Stmt := PySem.Challenge.pw_rulewheel_k02_dayset_counting.main.body.getD i (.Pass ⟨0, 0, 0, 0⟩)
def topM (i j : Nat) : Stmt := match top i with
  | .ClassDef (body := b) .. => b.getD j (.Pass ⟨0, 0, 0, 0⟩)
  | s => s
def XT : List XcD := [⟨"BadText", ["line"]⟩, ⟨"TooLong", ["limit"]⟩]
abbrev mv_H_law_box (p : H_law_box) : MV := mL [tv (rSq .l rInt) p.cells, tv rInt p.at_, tv rInt p.cell, tv rInt p.state, tv rInt p.turn]
def d0 : He.DefD := ⟨("BadText", some "__init__"), "__init__", "BadText.__init__", defArgs (topM 8 0), defBody (topM 8 0), defScope (topM 8 0), [], []⟩
def d1 : He.DefD := ⟨("TooLong", some "__init__"), "__init__", "TooLong.__init__", defArgs (topM 9 0), defBody (topM 9 0), defScope (topM 9 0), [], []⟩
def d2 : He.DefD := ⟨("_law_box", none), "_law_box", "_law_box", defArgs (top 21), defBody (top 21), defScope (top 21), [], []⟩
def d3 : He.DefD := ⟨("_law_take", none), "_law_take", "_law_take", defArgs (top 22), defBody (top 22), defScope (top 22), [], []⟩
def d4 : He.DefD := ⟨("_law_bits", none), "_law_bits", "_law_bits", defArgs (top 23), defBody (top 23), defScope (top 23), [], []⟩
def d5 : He.DefD := ⟨("_law_drawn", none), "_law_drawn", "_law_drawn", defArgs (top 25), defBody (top 25), defScope (top 25), [], []⟩
def d6 : He.DefD := ⟨("_law_wide", none), "_law_wide", "_law_wide", defArgs (top 24), defBody (top 24), defScope (top 24), [], []⟩
def d7 : He.DefD := ⟨("_law_number", none), "_law_number", "_law_number", defArgs (top 26), defBody (top 26), defScope (top 26), [], []⟩
def d8 : He.DefD := ⟨("_law_only_days", none), "_law_only_days", "_law_only_days", defArgs (top 39), defBody (top 39), defScope (top 39), [], []⟩
def d9 : He.DefD := ⟨("_only_marks", none), "_only_marks", "_only_marks", defArgs (top 17), defBody (top 17), defScope (top 17), [], []⟩
def d10 : He.DefD := ⟨("divisors_of", none), "divisors_of", "divisors_of", defArgs (top 3), defBody (top 3), defScope (top 3), [], []⟩
def d11 : He.DefD := ⟨("_least_period", none), "_least_period", "_least_period", defArgs (top 5), defBody (top 5), defScope (top 5), [], []⟩
def d12 : He.DefD := ⟨("normal_form", none), "normal_form", "normal_form", defArgs (top 4), defBody (top 4), defScope (top 4), [], []⟩
def d13 : He.DefD := ⟨("DaySet", some "__init__"), "__init__", "DaySet.__init__", defArgs (topM 12 0), defBody (topM 12 0), defScope (topM 12 0), [], []⟩
def d14 : He.DefD := ⟨("_law_only_made", none), "_law_only_made", "_law_only_made", defArgs (top 40), defBody (top 40), defScope (top 40), [], []⟩
def d15 : He.DefD := ⟨("_law_normal", none), "_law_normal", "_law_normal", defArgs (top 27), defBody (top 27), defScope (top 27), [], []⟩
def d16 : He.DefD := ⟨("_law_only_due", none), "_law_only_due", "_law_only_due", defArgs (top 41), defBody (top 41), defScope (top 41), [], []⟩
def d17 : He.DefD := ⟨("_law_integer", none), "_law_integer", "_law_integer", defArgs (top 28), defBody (top 28), defScope (top 28), [], []⟩
def d18 : He.DefD := ⟨("DaySet", some "__str__"), "__str__", "DaySet.__str__", defArgs (topM 12 7), defBody (topM 12 7), defScope (topM 12 7), [], []⟩
def d19 : He.DefD := ⟨("_law_shown", none), "_law_shown", "_law_shown", defArgs (top 30), defBody (top 30), defScope (top 30), [], []⟩
def d20 : He.DefD := ⟨("_law_as_due", none), "_law_as_due", "_law_as_due", defArgs (top 49), defBody (top 49), defScope (top 49), [], []⟩
def d21 : He.DefD := ⟨("_law_bound_day", none), "_law_bound_day", "_law_bound_day", defArgs (top 42), defBody (top 42), defScope (top 42), [], []⟩
def d22 : He.DefD := ⟨("_law_span_made", none), "_law_span_made", "_law_span_made", defArgs (top 43), defBody (top 43), defScope (top 43), [], []⟩
def d23 : He.DefD := ⟨("_law_span_due", none), "_law_span_due", "_law_span_due", defArgs (top 44), defBody (top 44), defScope (top 44), [], []⟩
def d24 : He.DefD := ⟨("_law_length", none), "_law_length", "_law_length", defArgs (top 45), defBody (top 45), defScope (top 45), [], []⟩
def d25 : He.DefD := ⟨("_law_begin", none), "_law_begin", "_law_begin", defArgs (top 46), defBody (top 46), defScope (top 46), [], []⟩
def d26 : He.DefD := ⟨("_law_every_made", none), "_law_every_made", "_law_every_made", defArgs (top 47), defBody (top 47), defScope (top 47), [], []⟩
def d27 : He.DefD := ⟨("_law_every_due", none), "_law_every_due", "_law_every_due", defArgs (top 48), defBody (top 48), defScope (top 48), [], []⟩
def d28 : He.DefD := ⟨("_law_made_hold", none), "_law_made_hold", "_law_made_hold", defArgs (top 50), defBody (top 50), defScope (top 50), [], []⟩
def d29 : He.DefD := ⟨("DaySet", some "__contains__"), "__contains__", "DaySet.__contains__", defArgs (topM 12 9), defBody (topM 12 9), defScope (topM 12 9), [], []⟩
def d30 : He.DefD := ⟨("_law_member", none), "_law_member", "_law_member", defArgs (top 32), defBody (top 32), defScope (top 32), [], []⟩
def d31 : He.DefD := ⟨("_law_truth", none), "_law_truth", "_law_truth", defArgs (top 29), defBody (top 29), defScope (top 29), [], []⟩
def d32 : He.DefD := ⟨("DaySet", some "next_from"), "next_from", "DaySet.next_from", defArgs (topM 12 19), defBody (topM 12 19), defScope (topM 12 19), [], []⟩
def d33 : He.DefD := ⟨("_law_next", none), "_law_next", "_law_next", defArgs (top 33), defBody (top 33), defScope (top 33), [], []⟩
def d34 : He.DefD := ⟨("_law_same", none), "_law_same", "_law_same", defArgs (top 31), defBody (top 31), defScope (top 31), [], []⟩
def d35 : He.DefD := ⟨("DaySet", some "count_before"), "count_before", "DaySet.count_before", defArgs (topM 12 20), defBody (topM 12 20), defScope (topM 12 20), [], []⟩
def d36 : He.DefD := ⟨("_law_count", none), "_law_count", "_law_count", defArgs (top 34), defBody (top 34), defScope (top 34), [], []⟩
def d37 : He.DefD := ⟨("_place_of", none), "_place_of", "_place_of", defArgs (top 19), defBody (top 19), defScope (top 19), [], []⟩
def d38 : He.DefD := ⟨("DaySet", some "nth"), "nth", "DaySet.nth", defArgs (topM 12 21), defBody (topM 12 21), defScope (topM 12 21), [], []⟩
def d39 : He.DefD := ⟨("_law_nth_holds", none), "_law_nth_holds", "_law_nth_holds", defArgs (top 35), defBody (top 35), defScope (top 35), [], []⟩
def d40 : He.DefD := ⟨("_law_day_holds", none), "_law_day_holds", "_law_day_holds", defArgs (top 36), defBody (top 36), defScope (top 36), [], []⟩
def d41 : He.DefD := ⟨("_law_named_holds", none), "_law_named_holds", "_law_named_holds", defArgs (top 37), defBody (top 37), defScope (top 37), [], []⟩
def d42 : He.DefD := ⟨("DaySet", some "__bool__"), "__bool__", "DaySet.__bool__", defArgs (topM 12 8), defBody (topM 12 8), defScope (topM 12 8), [], []⟩
def d43 : He.DefD := ⟨("DaySet", some "first_gap"), "first_gap", "DaySet.first_gap", defArgs (topM 12 22), defBody (topM 12 22), defScope (topM 12 22), [], []⟩
def d44 : He.DefD := ⟨("DaySet", some "greatest"), "greatest", "DaySet.greatest", defArgs (topM 12 23), defBody (topM 12 23), defScope (topM 12 23), [], []⟩
def d45 : He.DefD := ⟨("DaySet", some "settled_from"), "settled_from", "DaySet.settled_from", defArgs (topM 12 24), defBody (topM 12 24), defScope (topM 12 24), [], []⟩
def d46 : He.DefD := ⟨("_law_whole_holds", none), "_law_whole_holds", "_law_whole_holds", defArgs (top 38), defBody (top 38), defScope (top 38), [], []⟩
def d47 : He.DefD := ⟨("law", none), "law", "law", defArgs (top 51), defBody (top 51), defScope (top 51), [], []⟩
def e0 : He.DefD := ⟨("DaySet", some "only"), "only", "DaySet.only", defArgs (topM 12 2), defBody (topM 12 2), defScope (topM 12 2), [], []⟩
def e1 : He.DefD := ⟨("DaySet", some "span"), "span", "DaySet.span", defArgs (topM 12 3), defBody (topM 12 3), defScope (topM 12 3), [], []⟩
def e2 : He.DefD := ⟨("DaySet", some "every"), "every", "DaySet.every", defArgs (topM 12 4), defBody (topM 12 4), defScope (topM 12 4), [], [("at", .int (0)), ("since", .int (0))]⟩
def fa : List Fx := [.fa (.free "int"), .fa (.free "len"), .fa (.glo "_law_box"), .fa (.glo "_law_take"), .fa (.free "range"), .fa (.glo "_law_bits"), .fa (.glo "_law_drawn"), .fa (.free "max"), .fa (.glo "_law_wide"), .fa (.glo "_law_number"), .fa (.glo "_law_only_days"), .fa (.free "list"), .fa (.glo "_only_marks"), .own (fun K => oexB K (He.ga K "BadText")), .fa (.meth "BadText" "__init__"), .fa (.glo "BadText"), .fa (.glo "divisors_of"), .fa (.glo "_least_period"), .fa (.glo "normal_form"), .fa (.int "LONGEST" 5000), .own (fun K => oexB K (He.ga K "TooLong")), .fa (.meth "TooLong" "__init__"), .fa (.glo "TooLong"), .fa (.cls "DaySet"), .fa (.noat "DaySet" "period"), .fa (.noat "DaySet" "start"), .fa (.noat "DaySet" "cycle"), .fa (.noat "DaySet" "lead"), .fa (.mkr "DaySet"), .fa (.glo "DaySet"), .own (fun K => baseS K (He.ga K "DaySet")), .own (fun K => statB K (He.ga K "DaySet") "only"), .own (fun K => PySem.W.keepIn K (.ref (sAd K (He.ga K "DaySet") "only"))), .own (fun K => xsB K (He.ga K "TooLong")), .fa (.noat "TooLong" "limit"), .fa (.exm "BadText" "TooLong" false), .fa (.exm "TooLong" "TooLong" true), .fa (.glo "_law_only_made"), .fa (.glo "_law_normal"), .fa (.glo "_law_only_due"), .fa (.free "isinstance"), .fa (.free "bool"), .fa (.glo "_law_integer"), .own (fun K => insB K (He.ga K "DaySet")), .own (fun K => decide (PySem.W.kitOne K (.ref (He.ga K "DaySet")) (.ref (He.ga K "DaySet")) = some true)), .fa (.free "str"), .fa (.meth "DaySet" "__str__"), .fa (.glo "_law_shown"), .fa (.glo "_law_as_due"), .fa (.glo "_law_bound_day"), .own (fun K => statB K (He.ga K "DaySet") "span"), .own (fun K => PySem.W.keepIn K (.ref (sAd K (He.ga K "DaySet") "span"))), .fa (.glo "_law_span_made"), .fa (.glo "_law_span_due"), .fa (.glo "_law_length"), .fa (.glo "_law_begin"), .own (fun K => statB K (He.ga K "DaySet") "every"), .own (fun K => PySem.W.keepIn K (.ref (sAd K (He.ga K "DaySet") "every"))), .fa (.glo "_law_every_made"), .fa (.glo "_law_every_due"), .fa (.glo "_law_made_hold"), .fa (.meth "DaySet" "__contains__"), .fa (.glo "_law_member"), .fa (.glo "_law_truth"), .fa (.meth "DaySet" "next_from"), .fa (.glo "_law_next"), .fa (.glo "_law_same"), .fa (.free "divmod"), .fa (.meth "DaySet" "count_before"), .fa (.glo "_law_count"), .fa (.glo "_place_of"), .fa (.meth "DaySet" "nth"), .fa (.glo "_law_nth_holds"), .fa (.glo "_law_day_holds"), .fa (.glo "_law_named_holds"), .fa (.meth "DaySet" "__bool__"), .fa (.meth "DaySet" "first_gap"), .fa (.meth "DaySet" "greatest"), .fa (.meth "DaySet" "settled_from"), .fa (.glo "_law_whole_holds"), .fa (.glo "law"), .own (fun K => baseB K (He.ga K "WheelError")), .fa (.glo "WheelError"), .fa (.noat "BadText" "line")]
def fn : Fns := ([d0, d1, d2, d3, d4, d5, d6, d7, d8, d9, d10, d11, d12, d13, d14, d15, d16, d17, d18, d19, d20, d21, d22, d23, d24, d25, d26, d27, d28, d29, d30, d31, d32, d33, d34, d35, d36, d37, d38, d39, d40, d41, d42, d43, d44, d45, d46, d47], [e0, e1, e2])
abbrev st_BadText____init__ : Stmt := topM 8 0
abbrev NN_BadText____init__ : List Str := ["self", "line"]
theorem sc_BadText____init__ : FnScope NN_BadText____init__ ["self", "line"] (defScope st_BadText____init__) := ⟨rfl, rfl, rfl, by decide +kernel, rfl, by decide +kernel, by decide +kernel⟩
section
variable {P : Program} {w : World} {K : PySem.W.Frag} {mg : Str → Option Value} {base : Heap}
theorem fnx_BadText {fd : FuncData} (T : Txt fa fn K mg) (F : FunD K d0.name d0.qual d0.params d0.body d0.scope (d0.dvs K) (d0.kws K) (He.fAd K d0.at_) fd) : FnOk P w K mg base CX0 1 (He.ma K (He.ga K "BadText") "__init__") fd ["self", "line"] (xSp K ⟨"BadText", ["line"]⟩) := by
  have sc := sc_BadText____init__
  refine F.ok sc (xsp_len rfl) (fun cdv A outer s H vs Q E hr h => ?_)
  refine ⟨_, PSs.nox (pss_cons (ps_expr (pe_winit rfl (T.glob 82 rfl) (baseB_ok (T.own 81 rfl)).a (baseB_ok (T.own 81 rfl)).b (baseB_ok (T.own 81 rfl)).c (pa_cons (pv 0) (pa_cons (pv 1) pa_nil)))) (pss_cons (ps_ost (pv 0) (pv 1)) pss_nil)), ?_⟩
  exact xsp_body1 h (T.noat 83 rfl) rfl
theorem okx_BadText (T : Txt fa fn K mg) : ∃ fd, FnOk P w K mg base CX0 1 (He.ma K (He.ga K "BadText") "__init__") fd ["self", "line"] (xSp K ⟨"BadText", ["line"]⟩) ∧ Binds K fd ["self", "line"] [] := by
  obtain ⟨fd, F⟩ := T.c.def_ 0 rfl
  exact ⟨fd, fnx_BadText T F, FunD.bindsN F fun _ _ _ _ _ _ us hl => match us, hl with | [_, _], _ => rfl⟩
end
abbrev st_TooLong____init__ : Stmt := topM 9 0
abbrev NN_TooLong____init__ : List Str := ["self", "limit"]
theorem sc_TooLong____init__ : FnScope NN_TooLong____init__ ["self", "limit"] (defScope st_TooLong____init__) := ⟨rfl, rfl, rfl, by decide +kernel, rfl, by decide +kernel, by decide +kernel⟩
section
variable {P : Program} {w : World} {K : PySem.W.Frag} {mg : Str → Option Value} {base : Heap}
theorem fnx_TooLong {fd : FuncData} (T : Txt fa fn K mg) (F : FunD K d1.name d1.qual d1.params d1.body d1.scope (d1.dvs K) (d1.kws K) (He.fAd K d1.at_) fd) : FnOk P w K mg base CX0 1 (He.ma K (He.ga K "TooLong") "__init__") fd ["self", "limit"] (xSp K ⟨"TooLong", ["limit"]⟩) := by
  have sc := sc_TooLong____init__
  refine F.ok sc (xsp_len rfl) (fun cdv A outer s H vs Q E hr h => ?_)
  refine ⟨_, PSs.nox (pss_cons (ps_expr (pe_winit rfl (T.glob 82 rfl) (baseB_ok (T.own 81 rfl)).a (baseB_ok (T.own 81 rfl)).b (baseB_ok (T.own 81 rfl)).c (pa_cons (pv 0) (pa_cons (pv 1) pa_nil)))) (pss_cons (ps_ost (pv 0) (pv 1)) pss_nil)), ?_⟩
  exact xsp_body1 h (T.noat 34 rfl) rfl
theorem okx_TooLong (T : Txt fa fn K mg) : ∃ fd, FnOk P w K mg base CX0 1 (He.ma K (He.ga K "TooLong") "__init__") fd ["self", "limit"] (xSp K ⟨"TooLong", ["limit"]⟩) ∧ Binds K fd ["self", "limit"] [] := by
  obtain ⟨fd, F⟩ := T.c.def_ 1 rfl
  exact ⟨fd, fnx_TooLong T F, FunD.bindsN F fun _ _ _ _ _ _ us hl => match us, hl with | [_, _], _ => rfl⟩
end
abbrev st__law_box : Stmt := top 21
abbrev NN__law_box : List Str := ["script", "cells", "state", "cell"]
theorem sc__law_box : FnScope NN__law_box ["script"] (defScope st__law_box) := ⟨rfl, rfl, rfl, by decide +kernel, rfl, by decide +kernel, by decide +kernel⟩
abbrev F_law_box : FS (List Int) (H_law_box) where
  ins := fun x => [.val (tv (rSq .q rInt) x)]
  cells := fun x => []
  m := fun x => m_law_box x
  out := fun x w => .rf (mv_H_law_box w) []
section
variable {P : Program} {w : World} {K : PySem.W.Frag} {mg : Str → Option Value} {base : Heap}
set_option maxHeartbeats 4000000 in
theorem fn__law_box {fd : FuncData} (T : Txt fa fn K mg) (F : FunD K d2.name d2.qual d2.params d2.body d2.scope (d2.dvs K) (d2.kws K) (He.fAd K d2.at_) fd) : FnOk P w K mg base CX0 1 (He.ga K "_law_box") fd ["script"] (spT K XT F_law_box) := by
  have sc := sc__law_box
  refine F.ok sc (sp_len fun _ => rfl) (fun cdv A outer s H vs Q E hr h => ?_)
  refine ⟨_, PSs.nox (pss_cons (ps_setLc (i := 1) (own := [("cell", 3)]) (g := _) (tt := _) rfl sc.nd rfl rfl (sw_true rfl rfl rfl (by decide +kernel)) (kPiL (K := K) (pe_slice (kSlL (K := K)) (pv 0) po_none (po_some pe_int))) (blkOk_by (N := NN__law_box) (sc := defScope st__law_box) (by decide +kernel)) (fun _ _ _ _ _ => (pg_name (i := 3) sc.nd rfl (Or.inl rfl))) (fun _ _ _ _ _ => pts_nil) (fun _ _ _ _ _ => (pe_op op_mod (pe_callTy call_int1 (by rfl) (T.free 0) (by decide +kernel) (pa_cons (pv 3) pa_nil)) (pe_op op_powW pe_int pe_int)))) (pss_cons (ps_set (i := 2) sc.nd rfl (Or.inl rfl) (pe_op op_add pe_int (pe_callB (kLen (K := K)) (by rfl) (T.free 1) (by decide +kernel) (pa_cons (pv 1) pa_nil)))) (pss_cons (ps_for PassesOwn.never rfl (kPiL (K := K) (pv 1)) (pg_name (i := 3) sc.nd rfl (Or.inl rfl)) (pss_cons (ps_set (i := 2) sc.nd rfl (Or.inl rfl) (pe_op op_mod (pe_callTy call_int1 (by rfl) (T.free 0) (by decide +kernel) (pa_cons (pe_op op_add (pe_op op_add (pe_op op_mul (pv 2) pe_int) (pe_op op_mul (pe_op op_mod (pe_callTy call_int1 (by rfl) (T.free 0) (by decide +kernel) (pa_cons (pv 3) pa_nil)) pe_int) pe_int)) pe_int) pa_nil)) pe_int)) pss_nil)) (pss_cons (ps_ret (pe_lst (pa_cons (pv 1) (pa_cons pe_int (pa_cons pe_int (pa_cons (pv 2) (pa_cons pe_int pa_nil))))))) pss_nil)))), ?_⟩
  refine sp_body0 h (fun _ _ => trivial) fun script => ?_
  show EvB K ⟨XT, fun _ _ _ _ => False⟩ 0 _ [some (.val (tv (rSq .q rInt) script)), none, none, none] [] (fun (w : H_law_box) => (.rf (mv_H_law_box w) [] : OS)) (m_law_box script)
  unfold m_law_box
  exact (eb_bind fun cells2 h2 => (eb_asg (ev_lstR (oeF (R := rInt) h2 (ef_map (R' := rInt) (ei_L (ev_lstR (ef_slR (ev_var rfl) eo_none (eo_some ev_int) (is_seq (k := .q) (R := rInt) (xs := script))))) (fun z => hz_map z) trivial (fun _ => ego_name) (fun x1 => (ev_op (ev_cb1 (ev_var rfl) rc_int) (ev_as (s' := vI ((10 : Int) ^ 60)) (ev_op ev_int ev_int (rv_pow ⟨by decide, by decide +kernel⟩)) rfl) (rv_mod (by decide)))))))
(eb_bind fun state3 h3 => (eb_asg (oeV h3 (ev_op ev_int (ev_cb1 (ev_var rfl) (rc_lenL (is_seq (k := .l) (R := rInt) (xs := cells2)))) rv_add))
(eb_for (g := fun (s4 : Int) => [some (.val (tv (rSq .q rInt) script)), some (.val (tv (rSq .l rInt) cells2)), some (.val (tv rInt s4)), none]) (mu := fun (s4 : Int) => []) (ei_L (ev_var rfl)) (fun _ => trivial) (.keep (.keep (.keep (.keep .nil)))) (fun _ => rfl) (fun _ _ => eg_name)
(fun s4 x5 => (eb_bind fun state6 h6 => (eb_asg (oeV h6 (ev_op (ev_cb1 (ev_op (ev_op (ev_op (ev_var rfl) ev_int (rv_mulC (.inr ⟨by decide, by decide⟩))) (ev_op (ev_op (ev_cb1 (ev_var rfl) rc_int) ev_int (rv_mod (by decide))) ev_int (rv_mulC (.inr ⟨by decide, by decide⟩))) rv_add) ev_int rv_add) rc_int) ev_int (rv_mod (by decide))))
(eb_nil rfl (.keep (.keep (.keep (.drop .nil)))) rfl (Nat.le_of_ble_eq_true rfl) rfl))))
(fun s4 => (eb_retF (ef_lst (ts := [tv (rSq .l rInt) cells2, tv rInt (0 : Int), tv rInt (0 : Int), tv rInt s4, tv rInt (0 : Int)]) (ea_cons (ev_var rfl) (ea_cons ev_int (ea_cons ev_int (ea_cons (ev_var rfl) (ea_cons ev_int ea_nil)))))) rfl rfl (Nat.le_of_ble_eq_true rfl))))))))
theorem ok__law_box (T : Txt fa fn K mg) : OkF P w K mg base "_law_box" ["script"] 1 (spT K XT F_law_box) := by
  obtain ⟨fd, F⟩ := T.c.def_ 2 rfl
  exact ⟨fd, fn__law_box T F, FunD.bindsN F fun _ _ _ _ _ _ us hl => match us, hl with | [_], _ => rfl, F.kp, T.glob 2 rfl⟩
end
abbrev st__law_take : Stmt := top 22
abbrev NN__law_take : List Str := ["box", "size", "mixed", "cell", "drawn"]
theorem sc__law_take : FnScope NN__law_take ["box", "size"] (defScope st__law_take) := ⟨rfl, rfl, rfl, by decide +kernel, rfl, by decide +kernel, by decide +kernel⟩
abbrev F_law_take : FS (H_law_box × Int) (Int × H_law_box) where
  ins := fun x => [.cell 0, .val (tv rInt x.2)]
  cells := fun x => [some (mv_H_law_box x.1)]
  m := fun x => m_law_take x.1 x.2
  out := fun x w => .rt (tv rInt w.1) [some (mv_H_law_box w.2)]
section
variable {P : Program} {w : World} {K : PySem.W.Frag} {mg : Str → Option Value} {base : Heap}
set_option maxHeartbeats 4000000 in
theorem fn__law_take {fd : FuncData} (T : Txt fa fn K mg) (F : FunD K d3.name d3.qual d3.params d3.body d3.scope (d3.dvs K) (d3.kws K) (He.fAd K d3.at_) fd) : FnOk P w K mg base CX0 1 (He.ga K "_law_take") fd ["box", "size"] (spT K XT F_law_take) := by
  have sc := sc__law_take
  refine F.ok sc (sp_len fun _ => rfl) (fun cdv A outer s H vs Q E hr h => ?_)
  refine ⟨_, PSs.nox (pss_cons (ps_asg (pe_op op_add (pe_ix (kIxL (K := K)) (pv 0) pe_int (fun _ _ => rfl)) pe_int) (pg_sub (pv 0) pe_int set_list)) (pss_cons (ps_if (PW.pt (pw_and (pt_cmpR op_eq (pe_ix (kIxL (K := K)) (pv 0) pe_int (fun _ _ => rfl)) pe_int (nomark _)) (pw_and1 (pt_cmpR op_lt (pe_ix (kIxL (K := K)) (pv 0) pe_int (fun _ _ => rfl)) (pe_callB (kLen (K := K)) (by rfl) (T.free 1) (by decide +kernel) (pa_cons (pe_ix (kIxL (K := K)) (pv 0) pe_int (fun _ _ => rfl)) pa_nil)) (nomark _))))) (pss_cons (ps_set (i := 3) sc.nd rfl (Or.inl rfl) (pe_ix (kIxL (K := K)) (pe_ix (kIxL (K := K)) (pv 0) pe_int (fun _ _ => rfl)) (pe_ix (kIxL (K := K)) (pv 0) pe_int (fun _ _ => rfl)) (fun _ _ => rfl))) (pss_cons (ps_asg (pe_op op_add (pe_ix (kIxL (K := K)) (pv 0) pe_int (fun _ _ => rfl)) pe_int) (pg_sub (pv 0) pe_int set_list)) (pss_cons (ps_if (pt_cmpR op_ge (pv 3) (pe_op op_powW pe_int pe_int) (nomark _)) (pss_cons (ps_asg (pv 3) (pg_sub (pv 0) pe_int set_list)) pss_nil) (pss_cons (ps_asg (pe_op op_mod (pe_callTy call_int1 (by rfl) (T.free 0) (by decide +kernel) (pa_cons (pe_op op_add (pe_op op_add (pe_op op_mul (pe_ix (kIxL (K := K)) (pv 0) pe_int (fun _ _ => rfl)) pe_int) (pe_op op_mul (pv 3) pe_int)) (pe_ix (kIxL (K := K)) (pv 0) pe_int (fun _ _ => rfl))) pa_nil)) pe_int) (pg_sub (pv 0) pe_int set_list)) pss_nil)) pss_nil))) pss_nil) (pss_cons (ps_if (pt_cmpR op_gt (pe_ix (kIxL (K := K)) (pv 0) pe_int (fun _ _ => rfl)) pe_int (nomark _)) (pss_cons (ps_set (i := 4) sc.nd rfl (Or.inl rfl) (pe_op op_mod (pe_callTy call_int1 (by rfl) (T.free 0) (by decide +kernel) (pa_cons (pe_ix (kIxL (K := K)) (pv 0) pe_int (fun _ _ => rfl)) pa_nil)) (pv 1))) (pss_cons (ps_asg (pe_op op_fdivW (pe_ix (kIxL (K := K)) (pv 0) pe_int (fun _ _ => rfl)) (pv 1)) (pg_sub (pv 0) pe_int set_list)) (pss_cons (ps_ret (pv 4)) pss_nil))) pss_nil) (pss_cons (ps_asg (pe_op op_mod (pe_callTy call_int1 (by rfl) (T.free 0) (by decide +kernel) (pa_cons (pe_op op_add (pe_op op_add (pe_op op_mul (pe_ix (kIxL (K := K)) (pv 0) pe_int (fun _ _ => rfl)) pe_int) (pe_op op_mul (pe_ix (kIxL (K := K)) (pv 0) pe_int (fun _ _ => rfl)) pe_int)) pe_int) pa_nil)) pe_int) (pg_sub (pv 0) pe_int set_list)) (pss_cons (ps_set (i := 2) sc.nd rfl (Or.inl rfl) (pe_op op_mod (pe_callTy call_int1 (by rfl) (T.free 0) (by decide +kernel) (pa_cons (pe_op op_add (pe_op op_mul (pe_ix (kIxL (K := K)) (pv 0) pe_int (fun _ _ => rfl)) pe_int) (pe_op op_mul (pe_ix (kIxL (K := K)) (pv 0) pe_int (fun _ _ => rfl)) pe_int)) pa_nil)) pe_int)) (pss_cons (ps_ret (pe_op op_mod (pe_op op_fdivW (pe_callTy call_int1 (by rfl) (T.free 0) (by decide +kernel) (pa_cons (pv 2) pa_nil)) pe_int) (pv 1))) pss_nil)))))), ?_⟩
  refine sp_body0 h (fun _ _ => trivial) fun x => ?_
  obtain ⟨box, size⟩ := x
  show EvB K ⟨XT, fun _ _ _ _ => False⟩ 1 _ [some (.cell 0), some (.val (tv rInt size)), none, none, none] [some (mv_H_law_box box)] (fun (w : Int × H_law_box) => (.rt (tv rInt w.1) [some (mv_H_law_box w.2)] : OS)) (m_law_take box size)
  unfold m_law_take
  exact (eb_setC none (j := 4) (ev_op (ev_op (ev_var rfl) ev_int (rv_ixL (is_cell none rfl) rfl)) ev_int rv_add) (ev_var rfl) ev_int rfl rfl
(eb_ifj (g := fun (s2 : H_law_box) => [some (.cell 0), some (.val (tv rInt size)), none, none, none]) (mu := fun (s2 : H_law_box) => [some (mv_H_law_box s2)]) (et_and0 (et_test (ev_op (ev_op (ev_var rfl) ev_int (rv_ixL (is_cell none rfl) rfl)) ev_int rv_eqI)) (et_test (ev_op (ev_op (ev_var rfl) ev_int (rv_ixL (is_cell none rfl) rfl)) (ev_cb1 (ev_op (ev_var rfl) ev_int (rv_ixL (is_cell none rfl) rfl)) (rc_lenL (is_seq (k := .l) (R := rInt) (xs := box.cells)))) rv_lt))) (fun _ => (eb_bind fun r1 h1 => (eb_asg (ev_op (ev_op (ev_var rfl) ev_int (rv_ixL (is_cell none rfl) rfl)) (ev_op (ev_var rfl) ev_int (rv_ixL (is_cell none rfl) rfl)) (rv_ixL (is_seq (k := .l) (R := rInt) (xs := box.cells)) (at_map h1)))
(eb_setC none (j := 1) (ev_op (ev_op (ev_var rfl) ev_int (rv_ixL (is_cell none rfl) rfl)) ev_int rv_add) (ev_var rfl) ev_int rfl rfl
(eb_ifl (et_test (ev_op (ev_var rfl) (ev_as (s' := vI ((10 : Int) ^ 18)) (ev_op ev_int ev_int (rv_pow ⟨by decide, by decide +kernel⟩)) rfl) rv_ge)) (fun _ => (eb_setC none (j := 2) (ev_var rfl) (ev_var rfl) ev_int rfl rfl
(eb_nil rfl (.keep (.keep (.keep (.drop (.keep .nil))))) rfl (Nat.le_of_ble_eq_true rfl) rfl)))
(fun _ => (eb_setC none (j := 3) (ev_op (ev_cb1 (ev_op (ev_op (ev_op (ev_op (ev_var rfl) ev_int (rv_ixL (is_cell none rfl) rfl)) ev_int (rv_mulC (.inr ⟨by decide, by decide⟩))) (ev_op (ev_var rfl) ev_int (rv_mulC (.inr ⟨by decide, by decide⟩))) rv_add) (ev_op (ev_var rfl) ev_int (rv_ixL (is_cell none rfl) rfl)) rv_add) rc_int) ev_int (rv_mod (by decide))) (ev_var rfl) ev_int rfl rfl
(eb_nil rfl (.keep (.keep (.keep (.drop (.keep .nil))))) rfl (Nat.le_of_ble_eq_true rfl) rfl))))))))
(fun _ => (eb_nil rfl (.keep (.keep (.keep (.keep (.keep .nil))))) rfl (Nat.le_of_ble_eq_true rfl) rfl)) (fun _ => Nat.le_of_ble_eq_true rfl)
(fun s2 => (eb_ifr (et_test (ev_op (ev_op (ev_var rfl) ev_int (rv_ixL (is_cell none rfl) rfl)) ev_int rv_gt)) (fun _ => (eb_bind fun r3 h3 => (eb_asg (ev_op (ev_cb1 (ev_op (ev_var rfl) ev_int (rv_ixL (is_cell none rfl) rfl)) rc_int) (ev_var rfl) (rv_modP h3))
(eb_bind fun r4 h4 => (eb_setC none (j := 2) (ev_op (ev_op (ev_var rfl) ev_int (rv_ixL (is_cell none rfl) rfl)) (ev_var rfl) (rv_fdivP h4)) (ev_var rfl) ev_int rfl rfl
(eb_ret (ev_var rfl) rfl rfl))))))
(fun _ => (eb_setC none (j := 3) (ev_op (ev_cb1 (ev_op (ev_op (ev_op (ev_op (ev_var rfl) ev_int (rv_ixL (is_cell none rfl) rfl)) ev_int (rv_mulC (.inr ⟨by decide, by decide⟩))) (ev_op (ev_op (ev_var rfl) ev_int (rv_ixL (is_cell none rfl) rfl)) ev_int (rv_mulC (.inr ⟨by decide, by decide⟩))) rv_add) ev_int rv_add) rc_int) ev_int (rv_mod (by decide))) (ev_var rfl) ev_int rfl rfl
(eb_bind fun mixed5 h5 => (eb_asg (oeV h5 (ev_op (ev_cb1 (ev_op (ev_op (ev_op (ev_var rfl) ev_int (rv_ixL (is_cell none rfl) rfl)) ev_int (rv_mulC (.inr ⟨by decide, by decide⟩))) (ev_op (ev_op (ev_var rfl) ev_int (rv_ixL (is_cell none rfl) rfl)) ev_int (rv_mulC (.inr ⟨by decide, by decide⟩))) rv_add) rc_int) ev_int (rv_mod (by decide))))
(eb_bind fun r6 h6 => (eb_ret (ev_op (ev_op (ev_cb1 (ev_var rfl) rc_int) ev_int (rv_fdiv ⟨by decide, by decide +kernel⟩)) (ev_var rfl) (rv_modP h6)) rfl rfl))))))))))
theorem ok__law_take (T : Txt fa fn K mg) : OkF P w K mg base "_law_take" ["box", "size"] 1 (spT K XT F_law_take) := by
  obtain ⟨fd, F⟩ := T.c.def_ 3 rfl
  exact ⟨fd, fn__law_take T F, FunD.bindsN F fun _ _ _ _ _ _ us hl => match us, hl with | [_, _], _ => rfl, F.kp, T.glob 3 rfl⟩
end
abbrev st__law_bits : Stmt := top 23
abbrev NN__law_bits : List Str := ["box", "size", "k"]
theorem sc__law_bits : FnScope NN__law_bits ["box", "size"] (defScope st__law_bits) := ⟨rfl, rfl, rfl, by decide +kernel, rfl, by decide +kernel, by decide +kernel⟩
abbrev F_law_bits : FS (H_law_box × Int) ((List Nat) × H_law_box) where
  ins := fun x => [.cell 0, .val (tv rInt x.2)]
  cells := fun x => [some (mv_H_law_box x.1)]
  m := fun x => m_law_bits x.1 x.2
  out := fun x w => .rt (tv rTxt w.1) [some (mv_H_law_box w.2)]
section
variable {P : Program} {w : World} {K : PySem.W.Frag} {mg : Str → Option Value} {base : Heap}
set_option maxHeartbeats 4000000 in
theorem fn__law_bits {fd : FuncData} (T : Txt fa fn K mg) (F : FunD K d4.name d4.qual d4.params d4.body d4.scope (d4.dvs K) (d4.kws K) (He.fAd K d4.at_) fd) : FnOk P w K mg base CX0 2 (He.ga K "_law_bits") fd ["box", "size"] (spT K XT F_law_bits) := by
  have sc := sc__law_bits
  obtain ⟨fd0, G0, b0, k0, g0⟩ := ok__law_take (P := P) (w := w) (base := base) T
  refine F.ok sc (sp_len fun _ => rfl) (fun cdv A outer s H vs Q E hr h => ?_)
  refine ⟨_, PSs.nox (pss_cons (ps_ret (kJoin (K := K) pe_str (pe_lc (own := [("k", 2)]) (g := _) (tt := _) rfl sc.nd (pi_range1 rfl (T.free 4) (pa_cons (pv 1) pa_nil)) (blkOk_by (N := NN__law_bits) (sc := defScope st__law_bits) (by decide +kernel)) (fun _ _ _ _ _ => (pg_name (i := 2) sc.nd rfl (Or.inl rfl))) (fun _ _ _ _ _ => pts_nil) (fun _ _ _ _ _ => (pe_ix ix_str pe_str (pe_call G0 (hr.mono (by decide)) rfl g0 k0 b0 .nil pass0 (pa_cons (pv 0) (pa_cons pe_int pa_nil))) (fun _ _ => rfl)))))) pss_nil), ?_⟩
  refine sp_body0 h (fun _ _ => trivial) fun x => ?_
  obtain ⟨box, size⟩ := x
  show EvB K ⟨XT, fun _ _ _ _ => False⟩ 1 _ [some (.cell 0), some (.val (tv rInt size)), none] [some (mv_H_law_box box)] (fun (w : (List Nat) × H_law_box) => (.rt (tv rTxt w.1) [some (mv_H_law_box w.2)] : OS)) (m_law_bits box size)
  unfold m_law_bits
  exact eb_bind fun r1 h1 => eb_bind fun r2 h2 => eb_bind fun r11 h11 => eb_bind fun r15 h15 => (eb_ret (ev_joinX (ev_txt (l := []) (by decide +kernel)) (ev_lstR (ef_mapS (mu := fun s7 => [some (mv_H_law_box s7)]) (R' := rTxt) (ei_rng1 (ea_cons (ev_var rfl) ea_nil) (rngP_ok h1).2) (fun _ => hz_size h2) (fun _ => trivial) (fun _ => rfl) (fun _ => ego_name) (fun s7 x3 y13 s14 e12 => bo e12 fun r8 h8 e12 => bo e12 fun r9 h9 e12 => bo e12 fun r10 h10 e12 => oePm (mu := fun s7 => [some (mv_H_law_box s7)]) e12 (ev_op (ev_txt (l := [48, 49]) (by decide +kernel)) (ev_call (F := F_law_take) (x := (s7, (2 : Int))) (ea_cons (ev_var rfl) (ea_cons ev_int ea_nil)) h8 (ss := [.cell 0, .val (tv rInt (2 : Int))]) (ks := [0]) ) (rv_ixX h9 h10))) (pairR h11))) (is_seq (k := .l) (R := rTxt) (xs := r11.1)) h15) rfl rfl)
theorem ok__law_bits (T : Txt fa fn K mg) : OkF P w K mg base "_law_bits" ["box", "size"] 2 (spT K XT F_law_bits) := by
  obtain ⟨fd, F⟩ := T.c.def_ 4 rfl
  exact ⟨fd, fn__law_bits T F, FunD.bindsN F fun _ _ _ _ _ _ us hl => match us, hl with | [_, _], _ => rfl, F.kp, T.glob 5 rfl⟩
end
abbrev st__law_drawn : Stmt := top 25
abbrev NN__law_drawn : List Str := ["box", "way", "lead", "word", "size", "head"]
theorem sc__law_drawn : FnScope NN__law_drawn ["box"] (defScope st__law_drawn) := ⟨rfl, rfl, rfl, by decide +kernel, rfl, by decide +kernel, by decide +kernel⟩
abbrev F_law_drawn : FS (H_law_box) (((List Nat) × (List Nat)) × H_law_box) where
  ins := fun x => [.cell 0]
  cells := fun x => [some (mv_H_law_box x)]
  m := fun x => m_law_drawn x
  out := fun x w => .rt (tv (rP2 rTxt rTxt) w.1) [some (mv_H_law_box w.2)]
section
variable {P : Program} {w : World} {K : PySem.W.Frag} {mg : Str → Option Value} {base : Heap}
set_option maxHeartbeats 4000000 in
theorem fn__law_drawn {fd : FuncData} (T : Txt fa fn K mg) (F : FunD K d5.name d5.qual d5.params d5.body d5.scope (d5.dvs K) (d5.kws K) (He.fAd K d5.at_) fd) : FnOk P w K mg base CX0 3 (He.ga K "_law_drawn") fd ["box"] (spT K XT F_law_drawn) := by
  have sc := sc__law_drawn
  obtain ⟨fd0, G0, b0, k0, g0⟩ := ok__law_take (P := P) (w := w) (base := base) T
  obtain ⟨fd1, G1, b1, k1, g1⟩ := ok__law_bits (P := P) (w := w) (base := base) T
  refine F.ok sc (sp_len fun _ => rfl) (fun cdv A outer s H vs Q E hr h => ?_)
  refine ⟨_, PSs.nox (pss_cons (ps_set (i := 1) sc.nd rfl (Or.inl rfl) (pe_call G0 (hr.mono (by decide)) rfl g0 k0 b0 .nil pass0 (pa_cons (pv 0) (pa_cons pe_int pa_nil)))) (pss_cons (ps_if (pt_cmpR op_eq (pv 1) pe_int (nomark _)) (pss_cons (ps_set (i := 3) sc.nd rfl (Or.inl rfl) (pe_call G1 (hr.mono (by decide)) rfl g1 k1 b1 .nil pass0 (pa_cons (pv 0) (pa_cons (pe_op op_add pe_int (pe_call G0 (hr.mono (by decide)) rfl g0 k0 b0 .nil pass0 (pa_cons (pv 0) (pa_cons pe_int pa_nil)))) pa_nil)))) (pss_cons (ps_set (i := 4) sc.nd rfl (Or.inl rfl) (pe_op op_add pe_int (pe_call G0 (hr.mono (by decide)) rfl g0 k0 b0 .nil pass0 (pa_cons (pv 0) (pa_cons pe_int pa_nil))))) (pss_cons (ps_set (i := 5) sc.nd rfl (Or.inl rfl) (pe_call G1 (hr.mono (by decide)) rfl g1 k1 b1 .nil pass0 (pa_cons (pv 0) (pa_cons (pe_op op_add pe_int (pe_call G0 (hr.mono (by decide)) rfl g0 k0 b0 .nil pass0 (pa_cons (pv 0) (pa_cons pe_int pa_nil)))) pa_nil)))) (pss_cons (ps_ret (pe_tup (pa_cons (pe_slice sl_str (pe_op op_mul_txt (pv 5) pe_int) po_none (po_some (pe_call G0 (hr.mono (by decide)) rfl g0 k0 b0 .nil pass0 (pa_cons (pv 0) (pa_cons pe_int pa_nil))))) (pa_cons (pe_slice sl_str (pe_op op_mul_txt (pv 3) (pv 4)) po_none (po_some (pv 4))) pa_nil)))) pss_nil)))) pss_nil) (pss_cons (ps_set (i := 2) sc.nd rfl (Or.inl rfl) (pe_call G1 (hr.mono (by decide)) rfl g1 k1 b1 .nil pass0 (pa_cons (pv 0) (pa_cons (pe_call G0 (hr.mono (by decide)) rfl g0 k0 b0 .nil pass0 (pa_cons (pv 0) (pa_cons pe_int pa_nil))) pa_nil)))) (pss_cons (ps_if (PW.pt (pw_or (pt_cmpR op_eq (pv 1) pe_int (nomark _)) (pw_or1 (pt_cmpR op_eq (pv 1) pe_int (nomark _))))) (pss_cons (ps_ret (pe_tup (pa_cons (pv 2) (pa_cons (pe_op op_mul_txt pe_str (pe_op op_add pe_int (pe_call G0 (hr.mono (by decide)) rfl g0 k0 b0 .nil pass0 (pa_cons (pv 0) (pa_cons pe_int pa_nil))))) pa_nil)))) pss_nil) pss_nil) (pss_cons (ps_if (pt_cmpR op_eq (pv 1) pe_int (nomark _)) (pss_cons (ps_ret (pe_tup (pa_cons (pv 2) (pa_cons (pe_op op_mul_txt pe_str (pe_op op_add pe_int (pe_call G0 (hr.mono (by decide)) rfl g0 k0 b0 .nil pass0 (pa_cons (pv 0) (pa_cons pe_int pa_nil))))) pa_nil)))) pss_nil) pss_nil) (pss_cons (ps_set (i := 3) sc.nd rfl (Or.inl rfl) (pe_call G1 (hr.mono (by decide)) rfl g1 k1 b1 .nil pass0 (pa_cons (pv 0) (pa_cons (pe_op op_add pe_int (pe_call G0 (hr.mono (by decide)) rfl g0 k0 b0 .nil pass0 (pa_cons (pv 0) (pa_cons pe_int pa_nil)))) pa_nil)))) (pss_cons (ps_ret (pe_tup (pa_cons (pv 2) (pa_cons (pe_op op_mul_txt (pv 3) (pe_op op_add pe_int (pe_call G0 (hr.mono (by decide)) rfl g0 k0 b0 .nil pass0 (pa_cons (pv 0) (pa_cons pe_int pa_nil))))) pa_nil)))) pss_nil))))))), ?_⟩
  refine sp_body0 h (fun _ _ => trivial) fun box => ?_
  show EvB K ⟨XT, fun _ _ _ _ => False⟩ 1 _ [some (.cell 0), none, none, none, none, none] [some (mv_H_law_box box)] (fun (w : ((List Nat) × (List Nat)) × H_law_box) => (.rt (tv (rP2 rTxt rTxt) w.1) [some (mv_H_law_box w.2)] : OS)) (m_law_drawn box)
  unfold m_law_drawn
  exact (eb_bind fun r1 h1 => (eb_asg (ev_call (F := F_law_take) (x := (box, (8 : Int))) (ea_cons (ev_var rfl) (ea_cons ev_int ea_nil)) h1 (ss := [.cell 0, .val (tv rInt (8 : Int))]) (ks := [0]) )
(eb_ifr (et_test (ev_op (ev_var rfl) ev_int rv_eqI)) (fun _ => (eb_bind fun r2 h2 => eb_bind fun r3 h3 => (eb_asg (ev_call (F := F_law_bits) (x := (r2.2, ((1 : Int) + r2.1))) (ea_cons (ev_var rfl) (ea_cons (ev_op ev_int (ev_call (F := F_law_take) (x := (r1.2, (7 : Int))) (ea_cons (ev_var rfl) (ea_cons ev_int ea_nil)) h2 (ss := [.cell 0, .val (tv rInt (7 : Int))]) (ks := [0]) ) rv_add) ea_nil)) h3 (ss := [.cell 0, .val (tv rInt ((1 : Int) + r2.1))]) (ks := [0]) )
(eb_bind fun r4 h4 => eb_bind fun size5 h5 => (eb_asg (oeV h5 (ev_op ev_int (ev_call (F := F_law_take) (x := (r3.2, (2500 : Int))) (ea_cons (ev_var rfl) (ea_cons ev_int ea_nil)) h4 (ss := [.cell 0, .val (tv rInt (2500 : Int))]) (ks := [0]) ) rv_add))
(eb_bind fun r6 h6 => eb_bind fun r7 h7 => (eb_asg (ev_call (F := F_law_bits) (x := (r6.2, ((1 : Int) + r6.1))) (ea_cons (ev_var rfl) (ea_cons (ev_op ev_int (ev_call (F := F_law_take) (x := (r4.2, (3 : Int))) (ea_cons (ev_var rfl) (ea_cons ev_int ea_nil)) h6 (ss := [.cell 0, .val (tv rInt (3 : Int))]) (ks := [0]) ) rv_add) ea_nil)) h7 (ss := [.cell 0, .val (tv rInt ((1 : Int) + r6.1))]) (ks := [0]) )
(eb_bind fun r8 h8 => eb_bind fun r9 h9 => eb_bind fun r10 h10 => eb_bind fun r11 h11 => eb_bind fun r12 h12 => (eb_ret (ev_mk2 (ea_cons (ev_slX (ev_op (ev_var rfl) ev_int (rv_repX h8)) eo_none (eo_some (ev_call (F := F_law_take) (x := (r7.2, (2500 : Int))) (ea_cons (ev_var rfl) (ea_cons ev_int ea_nil)) h10 (ss := [.cell 0, .val (tv rInt (2500 : Int))]) (ks := [0]) )) h9) (ea_cons (ev_slX (ev_op (ev_var rfl) (ev_var rfl) (rv_repX h11)) eo_none (eo_some (ev_var rfl)) h12) ea_nil))) rfl rfl)))))))))
(fun _ => (eb_bind fun r13 h13 => eb_bind fun r14 h14 => (eb_asg (ev_call (F := F_law_bits) (x := (r13.2, r13.1)) (ea_cons (ev_var rfl) (ea_cons (ev_call (F := F_law_take) (x := (r1.2, (15 : Int))) (ea_cons (ev_var rfl) (ea_cons ev_int ea_nil)) h13 (ss := [.cell 0, .val (tv rInt (15 : Int))]) (ks := [0]) ) ea_nil)) h14 (ss := [.cell 0, .val (tv rInt r13.1)]) (ks := [0]) )
(eb_ifr (et_or0 (et_test (ev_op (ev_var rfl) ev_int rv_eqI)) (et_test (ev_op (ev_var rfl) ev_int rv_eqI))) (fun _ => eb_bind fun r15 h15 => eb_bind fun r16 h16 => (eb_ret (ev_mk2 (ea_cons (ev_var rfl) (ea_cons (ev_op (ev_txt (l := [48]) (by decide +kernel)) (ev_op ev_int (ev_call (F := F_law_take) (x := (r14.2, (3 : Int))) (ea_cons (ev_var rfl) (ea_cons ev_int ea_nil)) h15 (ss := [.cell 0, .val (tv rInt (3 : Int))]) (ks := [0]) ) rv_add) (rv_repX h16)) ea_nil))) rfl rfl))
(fun _ => (eb_ifr (et_test (ev_op (ev_var rfl) ev_int rv_eqI)) (fun _ => eb_bind fun r17 h17 => eb_bind fun r18 h18 => (eb_ret (ev_mk2 (ea_cons (ev_var rfl) (ea_cons (ev_op (ev_txt (l := [49]) (by decide +kernel)) (ev_op ev_int (ev_call (F := F_law_take) (x := (r14.2, (3 : Int))) (ea_cons (ev_var rfl) (ea_cons ev_int ea_nil)) h17 (ss := [.cell 0, .val (tv rInt (3 : Int))]) (ks := [0]) ) rv_add) (rv_repX h18)) ea_nil))) rfl rfl))
(fun _ => (eb_bind fun r19 h19 => eb_bind fun r20 h20 => (eb_asg (ev_call (F := F_law_bits) (x := (r19.2, ((1 : Int) + r19.1))) (ea_cons (ev_var rfl) (ea_cons (ev_op ev_int (ev_call (F := F_law_take) (x := (r14.2, (12 : Int))) (ea_cons (ev_var rfl) (ea_cons ev_int ea_nil)) h19 (ss := [.cell 0, .val (tv rInt (12 : Int))]) (ks := [0]) ) rv_add) ea_nil)) h20 (ss := [.cell 0, .val (tv rInt ((1 : Int) + r19.1))]) (ks := [0]) )
(eb_bind fun r21 h21 => eb_bind fun r22 h22 => (eb_ret (ev_mk2 (ea_cons (ev_var rfl) (ea_cons (ev_op (ev_var rfl) (ev_op ev_int (ev_call (F := F_law_take) (x := (r20.2, (3 : Int))) (ea_cons (ev_var rfl) (ea_cons ev_int ea_nil)) h21 (ss := [.cell 0, .val (tv rInt (3 : Int))]) (ks := [0]) ) rv_add) (rv_repX h22)) ea_nil))) rfl rfl))))))))))))))
theorem ok__law_drawn (T : Txt fa fn K mg) : OkF P w K mg base "_law_drawn" ["box"] 3 (spT K XT F_law_drawn) := by
  obtain ⟨fd, F⟩ := T.c.def_ 5 rfl
  exact ⟨fd, fn__law_drawn T F, FunD.bindsN F fun _ _ _ _ _ _ us hl => match us, hl with | [_], _ => rfl, F.kp, T.glob 6 rfl⟩
end
abbrev st__law_wide : Stmt := top 24
abbrev NN__law_wide : List Str := ["box", "wide", "k"]
theorem sc__law_wide : FnScope NN__law_wide ["box"] (defScope st__law_wide) := ⟨rfl, rfl, rfl, by decide +kernel, rfl, by decide +kernel, by decide +kernel⟩
abbrev F_law_wide : FS (H_law_box) (Int × H_law_box) where
  ins := fun x => [.cell 0]
  cells := fun x => [some (mv_H_law_box x)]
  m := fun x => m_law_wide x
  out := fun x w => .rt (tv rInt w.1) [some (mv_H_law_box w.2)]
section
variable {P : Program} {w : World} {K : PySem.W.Frag} {mg : Str → Option Value} {base : Heap}
set_option maxHeartbeats 4000000 in
theorem fn__law_wide {fd : FuncData} (T : Txt fa fn K mg) (F : FunD K d6.name d6.qual d6.params d6.body d6.scope (d6.dvs K) (d6.kws K) (He.fAd K d6.at_) fd) : FnOk P w K mg base CX0 2 (He.ga K "_law_wide") fd ["box"] (spT K XT F_law_wide) := by
  have sc := sc__law_wide
  obtain ⟨fd0, G0, b0, k0, g0⟩ := ok__law_take (P := P) (w := w) (base := base) T
  refine F.ok sc (sp_len fun _ => rfl) (fun cdv A outer s H vs Q E hr h => ?_)
  refine ⟨_, PSs.nox (pss_cons (ps_set (i := 1) sc.nd rfl (Or.inl rfl) pe_int) (pss_cons (ps_for PassesOwn.never rfl (pi_range1 rfl (T.free 4) (pa_cons pe_int pa_nil)) (pg_name (i := 2) sc.nd rfl (Or.inl rfl)) (pss_cons (ps_set (i := 1) sc.nd rfl (Or.inl rfl) (pe_op op_add (pe_op op_mul (pv 1) pe_int) (pe_call G0 (hr.mono (by decide)) rfl g0 k0 b0 .nil pass0 (pa_cons (pv 0) (pa_cons pe_int pa_nil))))) pss_nil)) (pss_cons (ps_ret (pv 1)) pss_nil))), ?_⟩
  refine sp_body0 h (fun _ _ => trivial) fun box => ?_
  show EvB K ⟨XT, fun _ _ _ _ => False⟩ 1 _ [some (.cell 0), none, none] [some (mv_H_law_box box)] (fun (w : Int × H_law_box) => (.rt (tv rInt w.1) [some (mv_H_law_box w.2)] : OS)) (m_law_wide box)
  unfold m_law_wide
  exact (eb_bind fun wide1 h1 => (eb_asg (oeV h1 ev_int)
(eb_for (g := fun (s2 : Int × H_law_box) => [some (.cell 0), some (.val (tv rInt s2.1)), none]) (mu := fun (s2 : Int × H_law_box) => [some (mv_H_law_box s2.2)]) (ei_rng1 (ea_cons ev_int ea_nil) ⟨by decide, by decide⟩) (fun _ => trivial) (.keep (.keep (.keep .nil))) (fun _ => rfl) (fun _ _ => eg_name)
(fun s2 x3 => (eb_bind fun r4 h4 => eb_bind fun wide5 h5 => (eb_asg (oeV h5 (ev_op (ev_op (ev_var rfl) ev_int (rv_mulC (.inr ⟨by decide, by decide⟩))) (ev_call (F := F_law_take) (x := (s2.2, (100000 : Int))) (ea_cons (ev_var rfl) (ea_cons ev_int ea_nil)) h4 (ss := [.cell 0, .val (tv rInt (100000 : Int))]) (ks := [0]) ) rv_add))
(eb_nil rfl (.keep (.keep (.drop .nil))) rfl (Nat.le_of_ble_eq_true rfl) rfl))))
(fun s2 => (eb_ret (ev_var rfl) rfl rfl)))))
theorem ok__law_wide (T : Txt fa fn K mg) : OkF P w K mg base "_law_wide" ["box"] 2 (spT K XT F_law_wide) := by
  obtain ⟨fd, F⟩ := T.c.def_ 6 rfl
  exact ⟨fd, fn__law_wide T F, FunD.bindsN F fun _ _ _ _ _ _ us hl => match us, hl with | [_], _ => rfl, F.kp, T.glob 8 rfl⟩
end
abbrev st__law_number : Stmt := top 26
abbrev NN__law_number : List Str := ["box", "one", "settled", "way"]
theorem sc__law_number : FnScope NN__law_number ["box", "one", "settled"] (defScope st__law_number) := ⟨rfl, rfl, rfl, by decide +kernel, rfl, by decide +kernel, by decide +kernel⟩
abbrev F_law_number : FS (H_law_box × ((List Nat) × (List Nat)) × Int) (Int × H_law_box) where
  ins := fun x => [.cell 0, .val (tv (rP2 rTxt rTxt) x.2.1), .val (tv rInt x.2.2)]
  cells := fun x => [some (mv_H_law_box x.1)]
  m := fun x => m_law_number x.1 x.2.1 x.2.2
  out := fun x w => .rt (tv rInt w.1) [some (mv_H_law_box w.2)]
section
variable {P : Program} {w : World} {K : PySem.W.Frag} {mg : Str → Option Value} {base : Heap}
set_option maxHeartbeats 4000000 in
theorem fn__law_number {fd : FuncData} (T : Txt fa fn K mg) (F : FunD K d7.name d7.qual d7.params d7.body d7.scope (d7.dvs K) (d7.kws K) (He.fAd K d7.at_) fd) : FnOk P w K mg base CX0 3 (He.ga K "_law_number") fd ["box", "one", "settled"] (spT K XT F_law_number) := by
  have sc := sc__law_number
  obtain ⟨fd0, G0, b0, k0, g0⟩ := ok__law_take (P := P) (w := w) (base := base) T
  obtain ⟨fd1, G1, b1, k1, g1⟩ := ok__law_wide (P := P) (w := w) (base := base) T
  refine F.ok sc (sp_len fun _ => rfl) (fun cdv A outer s H vs Q E hr h => ?_)
  refine ⟨_, PSs.nox (pss_cons (ps_set (i := 3) sc.nd rfl (Or.inl rfl) (pe_call G0 (hr.mono (by decide)) rfl g0 k0 b0 .nil pass0 (pa_cons (pv 0) (pa_cons pe_int pa_nil)))) (pss_cons (ps_if (pt_cmpR op_eq (pv 3) pe_int (nomark _)) (pss_cons (ps_ret (pe_op op_add (pv 2) (pe_call G0 (hr.mono (by decide)) rfl g0 k0 b0 .nil pass0 (pa_cons (pv 0) (pa_cons (pe_callB call_len_str (by rfl) (T.free 1) (by decide +kernel) (pa_cons (pe_ix (kIxT (K := K)) (pv 1) pe_int (fun _ _ => rfl)) pa_nil)) pa_nil))))) pss_nil) pss_nil) (pss_cons (ps_if (pt_cmpR op_eq (pv 3) pe_int (nomark _)) (pss_cons (ps_ret (pe_callB (call_max2 rfl) (by rfl) (T.free 7) (by decide +kernel) (pa_cons pe_int (pa_cons (pe_op op_sub (pv 2) pe_int) pa_nil)))) pss_nil) pss_nil) (pss_cons (ps_if (pt_cmpR op_eq (pv 3) pe_int (nomark _)) (pss_cons (ps_ret (pe_call G1 (hr.mono (by decide)) rfl g1 k1 b1 .nil pass0 (pa_cons (pv 0) pa_nil))) pss_nil) pss_nil) (pss_cons (ps_if (pt_cmpR op_eq (pv 3) pe_int (nomark _)) (pss_cons (ps_ret (pe_op op_sub (pe_op op_sub (pe_op op_powW pe_int pe_int) pe_int) (pe_call G0 (hr.mono (by decide)) rfl g0 k0 b0 .nil pass0 (pa_cons (pv 0) (pa_cons pe_int pa_nil))))) pss_nil) pss_nil) (pss_cons (ps_if (pt_cmpR op_eq (pv 3) pe_int (nomark _)) (pss_cons (ps_ret (pe_call G0 (hr.mono (by decide)) rfl g0 k0 b0 .nil pass0 (pa_cons (pv 0) (pa_cons pe_int pa_nil)))) pss_nil) pss_nil) (pss_cons (ps_ret (pe_call G0 (hr.mono (by decide)) rfl g0 k0 b0 .nil pass0 (pa_cons (pv 0) (pa_cons (pe_op op_add (pe_op op_add (pv 2) (pe_op op_mul pe_int (pe_callB call_len_str (by rfl) (T.free 1) (by decide +kernel) (pa_cons (pe_ix (kIxT (K := K)) (pv 1) pe_int (fun _ _ => rfl)) pa_nil)))) pe_int) pa_nil)))) pss_nil))))))), ?_⟩
  refine sp_body0 h (fun _ _ => trivial) fun x => ?_
  obtain ⟨box, one, settled⟩ := x
  show EvB K ⟨XT, fun _ _ _ _ => False⟩ 1 _ [some (.cell 0), some (.val (tv (rP2 rTxt rTxt) one)), some (.val (tv rInt settled)), none] [some (mv_H_law_box box)] (fun (w : Int × H_law_box) => (.rt (tv rInt w.1) [some (mv_H_law_box w.2)] : OS)) (m_law_number box one settled)
  unfold m_law_number
  exact (eb_bind fun r1 h1 => (eb_asg (ev_call (F := F_law_take) (x := (box, (6 : Int))) (ea_cons (ev_var rfl) (ea_cons ev_int ea_nil)) h1 (ss := [.cell 0, .val (tv rInt (6 : Int))]) (ks := [0]) )
(eb_ifr (et_test (ev_op (ev_var rfl) ev_int rv_eqI)) (fun _ => eb_bind fun r2 h2 => eb_bind fun r3 h3 => (eb_ret (ev_op (ev_var rfl) (ev_call (F := F_law_take) (x := (r1.2, (one.2.length : Int))) (ea_cons (ev_var rfl) (ea_cons (ev_cb1 (ev_op (ev_var rfl) ev_int (rv_ixT is_p2 rfl)) (rc_lenX h2)) ea_nil)) h3 (ss := [.cell 0, .val (tv rInt (one.2.length : Int))]) (ks := [0]) ) rv_add) rfl rfl))
(fun _ => (eb_ifr (et_test (ev_op (ev_var rfl) ev_int rv_eqI)) (fun _ => (eb_ret (ev_cb2 ev_int (ev_op (ev_var rfl) ev_int rv_sub) rc_max2) rfl rfl))
(fun _ => (eb_ifr (et_test (ev_op (ev_var rfl) ev_int rv_eqI)) (fun _ => eb_bind fun r4 h4 => (eb_ret (ev_call (F := F_law_wide) (x := r1.2) (ea_cons (ev_var rfl) ea_nil) h4 (ss := [.cell 0]) (ks := [0]) ) rfl rfl))
(fun _ => (eb_ifr (et_test (ev_op (ev_var rfl) ev_int rv_eqI)) (fun _ => eb_bind fun r5 h5 => (eb_ret (ev_op (ev_op (ev_as (s' := vI ((10 : Int) ^ 30)) (ev_op ev_int ev_int (rv_pow ⟨by decide, by decide +kernel⟩)) rfl) ev_int rv_sub) (ev_call (F := F_law_take) (x := (r1.2, (1000 : Int))) (ea_cons (ev_var rfl) (ea_cons ev_int ea_nil)) h5 (ss := [.cell 0, .val (tv rInt (1000 : Int))]) (ks := [0]) ) rv_sub) rfl rfl))
(fun _ => (eb_ifr (et_test (ev_op (ev_var rfl) ev_int rv_eqI)) (fun _ => eb_bind fun r6 h6 => (eb_ret (ev_call (F := F_law_take) (x := (r1.2, (12 : Int))) (ea_cons (ev_var rfl) (ea_cons ev_int ea_nil)) h6 (ss := [.cell 0, .val (tv rInt (12 : Int))]) (ks := [0]) ) rfl rfl))
(fun _ => eb_bind fun r7 h7 => eb_bind fun r8 h8 => (eb_ret (ev_call (F := F_law_take) (x := (r1.2, ((settled + ((2 : Int) * (one.2.length : Int))) + (1 : Int)))) (ea_cons (ev_var rfl) (ea_cons (ev_op (ev_op (ev_var rfl) (ev_op ev_int (ev_cb1 (ev_op (ev_var rfl) ev_int (rv_ixT is_p2 rfl)) (rc_lenX h7)) (rv_mulC (.inl ⟨by decide, by decide⟩))) rv_add) ev_int rv_add) ea_nil)) h8 (ss := [.cell 0, .val (tv rInt ((settled + ((2 : Int) * (one.2.length : Int))) + (1 : Int)))]) (ks := [0]) ) rfl rfl)))))))))))))
theorem ok__law_number (T : Txt fa fn K mg) : OkF P w K mg base "_law_number" ["box", "one", "settled"] 3 (spT K XT F_law_number) := by
  obtain ⟨fd, F⟩ := T.c.def_ 7 rfl
  exact ⟨fd, fn__law_number T F, FunD.bindsN F fun _ _ _ _ _ _ us hl => match us, hl with | [_, _, _], _ => rfl, F.kp, T.glob 9 rfl⟩
end
abbrev st__law_only_days : Stmt := top 39
abbrev NN__law_only_days : List Str := ["box", "choice", "edge", "drawn", "k"]
theorem sc__law_only_days : FnScope NN__law_only_days ["box"] (defScope st__law_only_days) := ⟨rfl, rfl, rfl, by decide +kernel, rfl, by decide +kernel, by decide +kernel⟩
abbrev F_law_only_days : FS (H_law_box) ((List Int) × H_law_box) where
  ins := fun x => [.cell 0]
  cells := fun x => [some (mv_H_law_box x)]
  m := fun x => m_law_only_days x
  out := fun x w => .rf (mL (w.1.map (tv rInt))) [some (mv_H_law_box w.2)]
section
variable {P : Program} {w : World} {K : PySem.W.Frag} {mg : Str → Option Value} {base : Heap}
set_option maxHeartbeats 4000000 in
theorem fn__law_only_days {fd : FuncData} (T : Txt fa fn K mg) (F : FunD K d8.name d8.qual d8.params d8.body d8.scope (d8.dvs K) (d8.kws K) (He.fAd K d8.at_) fd) : FnOk P w K mg base CX0 2 (He.ga K "_law_only_days") fd ["box"] (spT K XT F_law_only_days) := by
  have sc := sc__law_only_days
  obtain ⟨fd0, G0, b0, k0, g0⟩ := ok__law_take (P := P) (w := w) (base := base) T
  refine F.ok sc (sp_len fun _ => rfl) (fun cdv A outer s H vs Q E hr h => ?_)
  refine ⟨_, PSs.nox (pss_cons (ps_set (i := 1) sc.nd rfl (Or.inl rfl) (pe_call G0 (hr.mono (by decide)) rfl g0 k0 b0 .nil pass0 (pa_cons (pv 0) (pa_cons pe_int pa_nil)))) (pss_cons (ps_set (i := 2) sc.nd rfl (Or.inl rfl) (pe_call G0 (hr.mono (by decide)) rfl g0 k0 b0 .nil pass0 (pa_cons (pv 0) (pa_cons pe_int pa_nil)))) (pss_cons (ps_set (i := 3) sc.nd rfl (Or.inl rfl) (pe_lst pa_nil)) (pss_cons (ps_for PassesOwn.never rfl (pi_range1 rfl (T.free 4) (pa_cons (pe_ix (kIxL (K := K)) (pe_lst (pa_cons pe_int (pa_cons pe_int (pa_cons pe_int (pa_cons pe_int (pa_cons pe_int (pa_cons pe_int pa_nil))))))) (pv 1) (fun _ _ => rfl)) pa_nil)) (pg_name (i := 4) sc.nd rfl (Or.inl rfl)) (pss_cons (ps_expr (pe_bm PySem.F.plainAttrs_list PySem.F.slot_list_append PySem.F.type_list_append mt_append (pv 3) (pa_cons (pe_call G0 (hr.mono (by decide)) rfl g0 k0 b0 .nil pass0 (pa_cons (pv 0) (pa_cons pe_int pa_nil))) pa_nil))) (pss_cons (ps_if (PW.pt (pw_and (pt_cmpR op_gt (pv 4) pe_int (nomark _)) (pw_and1 (pt_cmpR op_eq (pe_call G0 (hr.mono (by decide)) rfl g0 k0 b0 .nil pass0 (pa_cons (pv 0) (pa_cons pe_int pa_nil))) pe_int (nomark _))))) (pss_cons (ps_asg (pe_ix (kIxL (K := K)) (pv 3) (pe_call G0 (hr.mono (by decide)) rfl g0 k0 b0 .nil pass0 (pa_cons (pv 0) (pa_cons (pv 4) pa_nil))) (fun _ _ => rfl)) (pg_sub (pv 3) (pv 4) set_list)) pss_nil) pss_nil) pss_nil))) (pss_cons (ps_if (PW.pt (pw_and (pt_cmpR op_lt (pv 2) pe_int (nomark _)) (pw_and1 (pt_cmpR op_gt (pe_callB (kLen (K := K)) (by rfl) (T.free 1) (by decide +kernel) (pa_cons (pv 3) pa_nil)) pe_int (nomark _))))) (pss_cons (ps_asg (pe_op op_add (pe_ix (kIxL (K := K)) (pe_lst (pa_cons pe_int (pa_cons pe_int pa_nil))) (pv 2) (fun _ _ => rfl)) (pe_call G0 (hr.mono (by decide)) rfl g0 k0 b0 .nil pass0 (pa_cons (pv 0) (pa_cons pe_int pa_nil)))) (pg_sub (pv 3) (pe_call G0 (hr.mono (by decide)) rfl g0 k0 b0 .nil pass0 (pa_cons (pv 0) (pa_cons (pe_callB (kLen (K := K)) (by rfl) (T.free 1) (by decide +kernel) (pa_cons (pv 3) pa_nil)) pa_nil))) set_list)) pss_nil) pss_nil) (pss_cons (ps_ret (pv 3)) pss_nil)))))), ?_⟩
  refine sp_body0 h (fun _ _ => trivial) fun box => ?_
  show EvB K ⟨XT, fun _ _ _ _ => False⟩ 1 _ [some (.cell 0), none, none, none, none] [some (mv_H_law_box box)] (fun (w : (List Int) × H_law_box) => (.rf (mL (w.1.map (tv rInt))) [some (mv_H_law_box w.2)] : OS)) (m_law_only_days box)
  unfold m_law_only_days
  exact (eb_bind fun r1 h1 => (eb_asg (ev_call (F := F_law_take) (x := (box, (6 : Int))) (ea_cons (ev_var rfl) (ea_cons ev_int ea_nil)) h1 (ss := [.cell 0, .val (tv rInt (6 : Int))]) (ks := [0]) )
(eb_bind fun r2 h2 => (eb_asg (ev_call (F := F_law_take) (x := (r1.2, (6 : Int))) (ea_cons (ev_var rfl) (ea_cons ev_int ea_nil)) h2 (ss := [.cell 0, .val (tv rInt (6 : Int))]) (ks := [0]) )
(eb_bind fun drawn3 h3 => (eb_asg (ev_own (oeF (R := rInt) h3 (ef_mkL (R := rInt) (xs := ([] : List Int)) ea_nil)))
(eb_bind fun r4 h4 => eb_bind fun r5 h5 => (eb_for (g := fun (s6 : H_law_box × (List Int)) => [some (.cell 0), some (.val (tv rInt r1.1)), some (.val (tv rInt r2.1)), some (.cell 1), none]) (mu := fun (s6 : H_law_box × (List Int)) => [some (mv_H_law_box s6.1), some (mL (s6.2.map (tv rInt)))]) (ei_rng1 (ea_cons (ev_op (ev_lstR (ef_mkL (R := rInt) (xs := ([(0 : Int), (1 : Int), (2 : Int), (3 : Int), (5 : Int), (8 : Int)] : List Int)) (ea_cons ev_int (ea_cons ev_int (ea_cons ev_int (ea_cons ev_int (ea_cons ev_int (ea_cons ev_int ea_nil)))))))) (ev_var rfl) (rv_ixL (is_seq (k := .l) (R := rInt) (xs := ([(0 : Int), (1 : Int), (2 : Int), (3 : Int), (5 : Int), (8 : Int)] : List Int))) (at_map h4))) ea_nil) (rngP_ok h5).2) (fun _ => trivial) (.keep (.keep (.keep (.keep (.keep .nil))))) (fun _ => rfl) (fun _ _ => eg_name)
(fun s6 x7 => (eb_bind fun r8 h8 => eb_bind fun r9 h9 => (eb_appL none (ev_var rfl) rfl (ev_call (F := F_law_take) (x := (s6.1, (30 : Int))) (ea_cons (ev_var rfl) (ea_cons ev_int ea_nil)) h8 (ss := [.cell 0, .val (tv rInt (30 : Int))]) (ks := [0]) ) rfl h9
(eb_bind fun r12 h12 => (eb_ifl (et_andS (mu := fun s11 => [some (mv_H_law_box s11), some (mL ((s6.2 ++ [r8.1]).map (tv rInt)))]) (et_test (ev_op (ev_var rfl) ev_int rv_gt)) h12 (fun _ e13 => bo e13 fun r10 h10 e13 => oeTS (mu := fun s11 => [some (mv_H_law_box s11), some (mL ((s6.2 ++ [r8.1]).map (tv rInt)))]) e13 (et_test (ev_op (ev_call (F := F_law_take) (x := (r8.2, (5 : Int))) (ea_cons (ev_var rfl) (ea_cons ev_int ea_nil)) h10 (ss := [.cell 0, .val (tv rInt (5 : Int))]) (ks := [0]) ) ev_int rv_eqI)))) (fun _ => (eb_bind fun r14 h14 => eb_bind fun r15 h15 => eb_bind fun r16 h16 => (eb_setI none (ev_op (ev_var rfl) (ev_call (F := F_law_take) (x := (r12.2, x7)) (ea_cons (ev_var rfl) (ea_cons (ev_var rfl) ea_nil)) h14 (ss := [.cell 0, .val (tv rInt x7)]) (ks := [0]) ) (rv_ixL (is_cell none rfl) (at_map h15))) (ev_var rfl) (ev_var rfl) rfl h16
(eb_nil rfl (.keep (.keep (.keep (.keep (.drop .nil))))) rfl (Nat.le_of_ble_eq_true rfl) rfl))))
(fun _ => (eb_nil rfl (.keep (.keep (.keep (.keep (.drop .nil))))) rfl (Nat.le_of_ble_eq_true rfl) rfl)))))))
(fun s6 => (eb_ifj (g := fun (s21 : H_law_box × (List Int)) => [some (.cell 0), some (.val (tv rInt r1.1)), some (.val (tv rInt r2.1)), some (.cell 1), none]) (mu := fun (s21 : H_law_box × (List Int)) => [some (mv_H_law_box s21.1), some (mL (s21.2.map (tv rInt)))]) (et_and0 (et_test (ev_op (ev_var rfl) ev_int rv_lt)) (et_test (ev_op (ev_cb1 (ev_var rfl) (rc_lenL (is_cell none rfl))) ev_int rv_gt))) (fun _ => (eb_bind fun r17 h17 => eb_bind fun r18 h18 => eb_bind fun r19 h19 => eb_bind fun r20 h20 => (eb_setI none (ev_op (ev_op (ev_lstR (ef_mkL (R := rInt) (xs := ([(4996 : Int), (9996 : Int)] : List Int)) (ea_cons ev_int (ea_cons ev_int ea_nil)))) (ev_var rfl) (rv_ixL (is_seq (k := .l) (R := rInt) (xs := ([(4996 : Int), (9996 : Int)] : List Int))) (at_map h17))) (ev_call (F := F_law_take) (x := (s6.1, (5 : Int))) (ea_cons (ev_var rfl) (ea_cons ev_int ea_nil)) h18 (ss := [.cell 0, .val (tv rInt (5 : Int))]) (ks := [0]) ) rv_add) (ev_var rfl) (ev_call (F := F_law_take) (x := (r18.2, (s6.2.length : Int))) (ea_cons (ev_var rfl) (ea_cons (ev_cb1 (ev_var rfl) (rc_lenL (is_cell none rfl))) ea_nil)) h19 (ss := [.cell 0, .val (tv rInt (s6.2.length : Int))]) (ks := [0]) ) rfl h20
(eb_nil rfl (.keep (.keep (.keep (.keep (.keep .nil))))) rfl (Nat.le_of_ble_eq_true rfl) rfl))))
(fun _ => (eb_nil rfl (.keep (.keep (.keep (.keep (.keep .nil))))) rfl (Nat.le_of_ble_eq_true rfl) rfl)) (fun _ => Nat.le_of_ble_eq_true rfl)
(fun s21 => (eb_retC (k := 1) (ev_var rfl) rfl rfl rfl (Nat.le_of_ble_eq_true rfl) (Nat.le_of_ble_eq_true rfl)))))))))))))
theorem ok__law_only_days (T : Txt fa fn K mg) : OkF P w K mg base "_law_only_days" ["box"] 2 (spT K XT F_law_only_days) := by
  obtain ⟨fd, F⟩ := T.c.def_ 8 rfl
  exact ⟨fd, fn__law_only_days T F, FunD.bindsN F fun _ _ _ _ _ _ us hl => match us, hl with | [_], _ => rfl, F.kp, T.glob 10 rfl⟩
end
abbrev st__only_marks : Stmt := top 17
abbrev NN__only_marks : List Str := ["text"]
theorem sc__only_marks : FnScope NN__only_marks ["text"] (defScope st__only_marks) := ⟨rfl, rfl, rfl, by decide +kernel, rfl, by decide +kernel, by decide +kernel⟩
abbrev F_only_marks : FS (List Nat) (Bool) where
  ins := fun x => [.val (tv rTxt x)]
  cells := fun x => []
  m := fun x => m_only_marks x
  out := fun x w => .rt (tv rBool w) []
section
variable {P : Program} {w : World} {K : PySem.W.Frag} {mg : Str → Option Value} {base : Heap}
set_option maxHeartbeats 4000000 in
theorem fn__only_marks {fd : FuncData} (T : Txt fa fn K mg) (F : FunD K d9.name d9.qual d9.params d9.body d9.scope (d9.dvs K) (d9.kws K) (He.fAd K d9.at_) fd) : FnOk P w K mg base CX0 1 (He.ga K "_only_marks") fd ["text"] (spT K XT F_only_marks) := by
  have sc := sc__only_marks
  refine F.ok sc (sp_len fun _ => rfl) (fun cdv A outer s H vs Q E hr h => ?_)
  refine ⟨_, PSs.nox (pss_cons (ps_ret (pe_cmpR op_eq (pe_op op_add (pe_m1 PySem.F.slot_str_count PySem.F.type_str_count mt_count (pv 0) pe_str) (pe_m1 PySem.F.slot_str_count PySem.F.type_str_count mt_count (pv 0) pe_str)) (pe_callB call_len_str (by rfl) (T.free 1) (by decide +kernel) (pa_cons (pv 0) pa_nil)) (nomark _))) pss_nil), ?_⟩
  refine sp_body0 h (fun _ _ => trivial) fun text => ?_
  show EvB K ⟨XT, fun _ _ _ _ => False⟩ 0 _ [some (.val (tv rTxt text))] [] (fun (w : Bool) => (.rt (tv rBool w) [] : OS)) (m_only_marks text)
  unfold m_only_marks
  exact eb_bind fun r1 h1 => (eb_ret (ev_op (ev_op (ev_countX (ev_var rfl) (ev_txt (l := [48]) (by decide +kernel))) (ev_countX (ev_var rfl) (ev_txt (l := [49]) (by decide +kernel))) rv_add) (ev_cb1 (ev_var rfl) (rc_lenX h1)) rv_eqI) rfl rfl)
theorem ok__only_marks (T : Txt fa fn K mg) : OkF P w K mg base "_only_marks" ["text"] 1 (spT K XT F_only_marks) := by
  obtain ⟨fd, F⟩ := T.c.def_ 9 rfl
  exact ⟨fd, fn__only_marks T F, FunD.bindsN F fun _ _ _ _ _ _ us hl => match us, hl with | [_], _ => rfl, F.kp, T.glob 12 rfl⟩
end
abbrev st_divisors_of : Stmt := top 3
abbrev NN_divisors_of : List Str := ["number", "small", "large", "divisor"]
theorem sc_divisors_of : FnScope NN_divisors_of ["number"] (defScope st_divisors_of) := ⟨rfl, rfl, rfl, by decide +kernel, rfl, by decide +kernel, by decide +kernel⟩
abbrev F_divisors_of : FS (Int) (List Int) where
  ins := fun x => [.val (tv rInt x)]
  cells := fun x => []
  m := fun x => m_divisors_of x
  out := fun x w => .rf (mL (w.map (tv rInt))) []
section
variable {P : Program} {w : World} {K : PySem.W.Frag} {mg : Str → Option Value} {base : Heap}
set_option maxHeartbeats 4000000 in
theorem fn_divisors_of {fd : FuncData} (T : Txt fa fn K mg) (F : FunD K d10.name d10.qual d10.params d10.body d10.scope (d10.dvs K) (d10.kws K) (He.fAd K d10.at_) fd) : FnOk P w K mg base CX0 1 (He.ga K "divisors_of") fd ["number"] (spT K XT F_divisors_of) := by
  have sc := sc_divisors_of
  refine F.ok sc (sp_len fun _ => rfl) (fun cdv A outer s H vs Q E hr h => ?_)
  refine ⟨_, PSs.nox (pss_cons (ps_set (i := 1) sc.nd rfl (Or.inl rfl) (pe_lst pa_nil)) (pss_cons (ps_set (i := 2) sc.nd rfl (Or.inl rfl) (pe_lst pa_nil)) (pss_cons (ps_set (i := 3) sc.nd rfl (Or.inl rfl) pe_int) (pss_cons (ps_while PassesOwn.never (pt_cmpR op_le (pe_op op_mulX (pv 3) (pv 3)) (pv 0) (nomark _)) (pss_cons (ps_if (pt_cmpR op_eq (pe_op op_mod (pv 0) (pv 3)) pe_int (nomark _)) (pss_cons (ps_expr (pe_bm PySem.F.plainAttrs_list PySem.F.slot_list_append PySem.F.type_list_append mt_append (pv 1) (pa_cons (pv 3) pa_nil))) (pss_cons (ps_if (pt_cmpR op_ne (pe_op op_mulX (pv 3) (pv 3)) (pv 0) (nomark _)) (pss_cons (ps_expr (pe_bm PySem.F.plainAttrs_list PySem.F.slot_list_append PySem.F.type_list_append mt_append (pv 2) (pa_cons (pe_op op_fdivW (pv 0) (pv 3)) pa_nil))) pss_nil) pss_nil) pss_nil)) pss_nil) (pss_cons (ps_aug (i := 3) sc.nd rfl (Or.inl rfl) pe_int ip_add) pss_nil))) (pss_cons (ps_ret (pe_op op_cat (pv 1) (pe_revL (pv 2)))) pss_nil))))), ?_⟩
  refine sp_body0 h (fun _ _ => trivial) fun number => ?_
  show EvB K ⟨XT, fun _ _ _ _ => False⟩ 0 _ [some (.val (tv rInt number)), none, none, none] [] (fun (w : List Int) => (.rf (mL (w.map (tv rInt))) [] : OS)) (m_divisors_of number)
  unfold m_divisors_of
  exact (eb_bind fun small1 h1 => (eb_asg (ev_own (oeF (R := rInt) h1 (ef_mkL (R := rInt) (xs := ([] : List Int)) ea_nil)))
(eb_bind fun large2 h2 => (eb_asg (ev_own (oeF (R := rInt) h2 (ef_mkL (R := rInt) (xs := ([] : List Int)) ea_nil)))
(eb_bind fun divisor3 h3 => (eb_asg (oeV h3 ev_int)
(eb_while (g := fun (s4 : Int × (List Int) × (List Int)) => [some (.val (tv rInt number)), some (.cell 0), some (.cell 1), some (.val (tv rInt s4.1))]) (mu := fun (s4 : Int × (List Int) × (List Int)) => [some (mL (s4.2.1.map (tv rInt))), some (mL (s4.2.2.map (tv rInt)))]) rfl (.keep (.keep (.keep (.keep .nil)))) (fun _ => rfl) (fun s4 b13 e14 => bo e14 fun r5 h5 e14 => oeT e14 (et_test (ev_op (ev_op (ev_var rfl) (ev_var rfl) (rv_mulP h5)) (ev_var rfl) rv_le)))
(fun s4 _ => (eb_bind fun r6 h6 => (eb_ifj (g := fun (s11 : (List Int) × (List Int)) => [some (.val (tv rInt number)), some (.cell 0), some (.cell 1), some (.val (tv rInt s4.1))]) (mu := fun (s11 : (List Int) × (List Int)) => [some (mL (s11.1.map (tv rInt))), some (mL (s11.2.map (tv rInt)))]) (et_test (ev_op (ev_op (ev_var rfl) (ev_var rfl) (rv_modP h6)) ev_int rv_eqI)) (fun _ => (eb_bind fun r7 h7 => (eb_appL none (ev_var rfl) rfl (ev_var rfl) rfl h7
(eb_bind fun r8 h8 => (eb_ifl (et_test (ev_op (ev_op (ev_var rfl) (ev_var rfl) (rv_mulP h8)) (ev_var rfl) rv_neI)) (fun _ => (eb_bind fun r9 h9 => eb_bind fun r10 h10 => (eb_appL none (ev_var rfl) rfl (ev_op (ev_var rfl) (ev_var rfl) (rv_fdivP h9)) rfl h10
(eb_nil rfl (.keep (.keep (.keep (.keep .nil)))) rfl (Nat.le_of_ble_eq_true rfl) rfl))))
(fun _ => (eb_nil rfl (.keep (.keep (.keep (.keep .nil)))) rfl (Nat.le_of_ble_eq_true rfl) rfl)))))))
(fun _ => (eb_nil rfl (.keep (.keep (.keep (.keep .nil)))) rfl (Nat.le_of_ble_eq_true rfl) rfl)) (fun _ => Nat.le_of_ble_eq_true rfl)
(fun s11 => (eb_aug rfl ev_int
(eb_nil rfl (.keep (.keep (.keep (.keep .nil)))) rfl (Nat.le_of_ble_eq_true rfl) rfl))))))
(fun s4 => eb_bind fun r12 h12 => (eb_retF (ev_op (ev_var rfl) (ev_lstR (ef_revL (ev_var rfl) (is_cell none rfl))) (rvF_catL (is_cell none rfl) (is_seq (k := .l) (R := rInt) (xs := s4.2.2.reverse)) h12)) rfl rfl (Nat.le_of_ble_eq_true rfl))))))))))
theorem ok_divisors_of (T : Txt fa fn K mg) : OkF P w K mg base "divisors_of" ["number"] 1 (spT K XT F_divisors_of) := by
  obtain ⟨fd, F⟩ := T.c.def_ 10 rfl
  exact ⟨fd, fn_divisors_of T F, FunD.bindsN F fun _ _ _ _ _ _ us hl => match us, hl with | [_], _ => rfl, F.kp, T.glob 16 rfl⟩
end
abbrev st__least_period : Stmt := top 5
abbrev NN__least_period : List Str := ["cycle", "count", "period"]
theorem sc__least_period : FnScope NN__least_period ["cycle"] (defScope st__least_period) := ⟨rfl, rfl, rfl, by decide +kernel, rfl, by decide +kernel, by decide +kernel⟩
abbrev F_least_period : FS (List (List Nat)) (Int) where
  ins := fun x => [.val (tv (rSq .l rTxt) x)]
  cells := fun x => []
  m := fun x => m_least_period x
  out := fun x w => .rt (tv rInt w) []
section
variable {P : Program} {w : World} {K : PySem.W.Frag} {mg : Str → Option Value} {base : Heap}
set_option maxHeartbeats 4000000 in
theorem fn__least_period {fd : FuncData} (T : Txt fa fn K mg) (F : FunD K d11.name d11.qual d11.params d11.body d11.scope (d11.dvs K) (d11.kws K) (He.fAd K d11.at_) fd) : FnOk P w K mg base CX0 2 (He.ga K "_least_period") fd ["cycle"] (spT K XT F_least_period) := by
  have sc := sc__least_period
  obtain ⟨fd0, G0, b0, k0, g0⟩ := ok_divisors_of (P := P) (w := w) (base := base) T
  refine F.ok sc (sp_len fun _ => rfl) (fun cdv A outer s H vs Q E hr h => ?_)
  refine ⟨_, PSs.nox (pss_cons (ps_set (i := 1) sc.nd rfl (Or.inl rfl) (pe_callB (kLen (K := K)) (by rfl) (T.free 1) (by decide +kernel) (pa_cons (pv 0) pa_nil))) (pss_cons (ps_for PassesOwn.never rfl (kPiL (K := K) (pe_call G0 (hr.mono (by decide)) rfl g0 k0 b0 .nil pass0 (pa_cons (pv 1) pa_nil))) (pg_name (i := 2) sc.nd rfl (Or.inl rfl)) (pss_cons (ps_if (pt_cmpR (kEqD (K := K) hr.units) (pv 0) (pe_op op_rep (pe_slice (kSlL (K := K)) (pv 0) po_none (po_some (pv 2))) (pe_op op_fdivW (pv 1) (pv 2))) (nomark _)) (pss_cons (ps_ret (pv 2)) pss_nil) pss_nil) pss_nil)) (pss_cons (ps_ret (pv 1)) pss_nil))), ?_⟩
  refine sp_body0 h (fun _ _ => trivial) fun cycle => ?_
  show EvB K ⟨XT, fun _ _ _ _ => False⟩ 0 _ [some (.val (tv (rSq .l rTxt) cycle)), none, none] [] (fun (w : Int) => (.rt (tv rInt w) [] : OS)) (m_least_period cycle)
  unfold m_least_period
  exact (eb_bind fun count1 h1 => (eb_asg (oeV h1 (ev_cb1 (ev_var rfl) (rc_lenL (is_seq (k := .l) (R := rTxt) (xs := cycle)))))
(eb_bind fun r2 h2 => (eb_for (g := fun (s3 : Unit) => [some (.val (tv (rSq .l rTxt) cycle)), some (.val (tv rInt count1)), none]) (mu := fun (s3 : Unit) => []) (ei_L (ev_lstR (ef_call (F := F_divisors_of) (x := count1) (ea_cons (ev_var rfl) ea_nil) h2 (ss := [.val (tv rInt count1)]) (ks := []) ))) (fun _ => trivial) (.keep (.keep (.keep .nil))) (fun _ => rfl) (fun _ _ => eg_name)
(fun s3 x4 => (eb_bind fun r5 h5 => eb_bind fun r6 h6 => eb_bind fun r7 h7 => (eb_ifl (et_test (ev_op (ev_var rfl) (ev_lstR (ev_op (ev_lstR (ef_slR (ev_var rfl) eo_none (eo_some (ev_var rfl)) (is_seq (k := .l) (R := rTxt) (xs := cycle)))) (ev_op (ev_var rfl) (ev_var rfl) (rv_fdivP h5)) (rvF_rep (is_seq (k := .l) (R := rTxt) (xs := (cut cycle none (some x4)))) h6))) (rv_eqD (drL drTxt) (by decide) ((Bool.and_eq_true_iff.mp (wellP_of h7)).1) ((Bool.and_eq_true_iff.mp (wellP_of h7)).2)))) (fun _ => (eb_ret (ev_var rfl) rfl rfl))
(fun _ => (eb_nil rfl (.keep (.keep (.drop .nil))) rfl (Nat.le_of_ble_eq_true rfl) rfl)))))
(fun s3 => (eb_ret (ev_var rfl) rfl rfl))))))
theorem ok__least_period (T : Txt fa fn K mg) : OkF P w K mg base "_least_period" ["cycle"] 2 (spT K XT F_least_period) := by
  obtain ⟨fd, F⟩ := T.c.def_ 11 rfl
  exact ⟨fd, fn__least_period T F, FunD.bindsN F fun _ _ _ _ _ _ us hl => match us, hl with | [_], _ => rfl, F.kp, T.glob 17 rfl⟩
end
abbrev st_normal_form : Stmt := top 4
abbrev NN_normal_form : List Str := ["lead", "cycle", "period", "start", "turn"]
theorem sc_normal_form : FnScope NN_normal_form ["lead", "cycle"] (defScope st_normal_form) := ⟨rfl, rfl, rfl, by decide +kernel, rfl, by decide +kernel, by decide +kernel⟩
abbrev F_normal_form : FS ((List (List Nat)) × (List (List Nat))) ((List (List Nat)) × (List (List Nat))) where
  ins := fun x => [.val (tv (rSq .l rTxt) x.1), .val (tv (rSq .l rTxt) x.2)]
  cells := fun x => []
  m := fun x => m_normal_form x.1 x.2
  out := fun x w => .rt (tv (rP2 (rSq .l rTxt) (rSq .l rTxt)) w) []
section
variable {P : Program} {w : World} {K : PySem.W.Frag} {mg : Str → Option Value} {base : Heap}
set_option maxHeartbeats 4000000 in
theorem fn_normal_form {fd : FuncData} (T : Txt fa fn K mg) (F : FunD K d12.name d12.qual d12.params d12.body d12.scope (d12.dvs K) (d12.kws K) (He.fAd K d12.at_) fd) : FnOk P w K mg base CX0 3 (He.ga K "normal_form") fd ["lead", "cycle"] (spT K XT F_normal_form) := by
  have sc := sc_normal_form
  obtain ⟨fd0, G0, b0, k0, g0⟩ := ok__least_period (P := P) (w := w) (base := base) T
  refine F.ok sc (sp_len fun _ => rfl) (fun cdv A outer s H vs Q E hr h => ?_)
  refine ⟨_, PSs.nox (pss_cons (ps_set (i := 2) sc.nd rfl (Or.inl rfl) (pe_call G0 (hr.mono (by decide)) rfl g0 k0 b0 .nil pass0 (pa_cons (pv 1) pa_nil))) (pss_cons (ps_set (i := 3) sc.nd rfl (Or.inl rfl) (pe_callB (kLen (K := K)) (by rfl) (T.free 1) (by decide +kernel) (pa_cons (pv 0) pa_nil))) (pss_cons (ps_while PassesOwn.never (PW.pt (pw_and (pt_cmpR op_gt (pv 3) pe_int (nomark _)) (pw_and1 (pt_cmpR op_eq (pe_ix (kIxL (K := K)) (pv 0) (pe_op op_sub (pv 3) pe_int) (fun _ _ => rfl)) (pe_ix (kIxL (K := K)) (pv 1) (pe_op op_mod (pe_op op_sub (pe_op op_sub (pv 3) pe_int) (pe_callB (kLen (K := K)) (by rfl) (T.free 1) (by decide +kernel) (pa_cons (pv 0) pa_nil))) (pv 2)) (fun _ _ => rfl)) (nomark _))))) (pss_cons (ps_aug (i := 3) sc.nd rfl (Or.inl rfl) pe_int ip_sub) pss_nil)) (pss_cons (ps_set (i := 4) sc.nd rfl (Or.inl rfl) (pe_op op_mod (pe_op op_sub (pv 3) (pe_callB (kLen (K := K)) (by rfl) (T.free 1) (by decide +kernel) (pa_cons (pv 0) pa_nil))) (pv 2))) (pss_cons (ps_ret (pe_tup (pa_cons (pe_slice (kSlL (K := K)) (pv 0) po_none (po_some (pv 3))) (pa_cons (pe_op op_cat (pe_slice (kSlL (K := K)) (pv 1) (po_some (pv 4)) (po_some (pv 2))) (pe_slice (kSlL (K := K)) (pv 1) po_none (po_some (pv 4)))) pa_nil)))) pss_nil))))), ?_⟩
  refine sp_body0 h (fun _ _ => trivial) fun x => ?_
  obtain ⟨lead, cycle⟩ := x
  show EvB K ⟨XT, fun _ _ _ _ => False⟩ 0 _ [some (.val (tv (rSq .l rTxt) lead)), some (.val (tv (rSq .l rTxt) cycle)), none, none, none] [] (fun (w : (List (List Nat)) × (List (List Nat))) => (.rt (tv (rP2 (rSq .l rTxt) (rSq .l rTxt)) w) [] : OS)) (m_normal_form lead cycle)
  unfold m_normal_form
  exact (eb_bind fun r1 h1 => (eb_asg (ev_call (F := F_least_period) (x := cycle) (ea_cons (ev_var rfl) ea_nil) h1 (ss := [.val (tv (rSq .l rTxt) cycle)]) (ks := []) )
(eb_bind fun start2 h2 => (eb_asg (oeV h2 (ev_cb1 (ev_var rfl) (rc_lenL (is_seq (k := .l) (R := rTxt) (xs := lead)))))
(eb_while (g := fun (s3 : Int) => [some (.val (tv (rSq .l rTxt) lead)), some (.val (tv (rSq .l rTxt) cycle)), some (.val (tv rInt r1)), some (.val (tv rInt s3)), none]) (mu := fun (s3 : Int) => []) rfl (.keep (.keep (.keep (.keep (.keep .nil))))) (fun _ => rfl) (fun s3 b11 e12 => bo e12 fun r7 h7 e12 => oeT e12 (et_andM (et_test (ev_op (ev_var rfl) ev_int rv_gt)) h7 (fun _ e8 => bo e8 fun r4 h4 e8 => bo e8 fun r5 h5 e8 => bo e8 fun r6 h6 e8 => oeT e8 (et_test (ev_op (ev_op (ev_var rfl) (ev_op (ev_var rfl) ev_int rv_sub) (rv_ixL (is_seq (k := .l) (R := rTxt) (xs := lead)) (at_map h4))) (ev_op (ev_var rfl) (ev_op (ev_op (ev_op (ev_var rfl) ev_int rv_sub) (ev_cb1 (ev_var rfl) (rc_lenL (is_seq (k := .l) (R := rTxt) (xs := lead)))) rv_sub) (ev_var rfl) (rv_modP h5)) (rv_ixL (is_seq (k := .l) (R := rTxt) (xs := cycle)) (at_map h6))) rv_eqX)))))
(fun s3 _ => (eb_aug rfl ev_int
(eb_nil rfl (.keep (.keep (.keep (.keep (.keep .nil))))) rfl (Nat.le_of_ble_eq_true rfl) rfl)))
(fun s3 => (eb_bind fun r9 h9 => (eb_asg (ev_op (ev_op (ev_var rfl) (ev_cb1 (ev_var rfl) (rc_lenL (is_seq (k := .l) (R := rTxt) (xs := lead)))) rv_sub) (ev_var rfl) (rv_modP h9))
(eb_bind fun r10 h10 => (eb_ret (ev_mk2 (ea_cons (ev_lstR (ef_slR (ev_var rfl) eo_none (eo_some (ev_var rfl)) (is_seq (k := .l) (R := rTxt) (xs := lead)))) (ea_cons (ev_lstR (ev_op (ev_lstR (ef_slR (ev_var rfl) (eo_some (ev_var rfl)) (eo_some (ev_var rfl)) (is_seq (k := .l) (R := rTxt) (xs := cycle)))) (ev_lstR (ef_slR (ev_var rfl) eo_none (eo_some (ev_var rfl)) (is_seq (k := .l) (R := rTxt) (xs := cycle)))) (rvF_catL (is_seq (k := .l) (R := rTxt) (xs := (cut cycle (some r9) (some r1)))) (is_seq (k := .l) (R := rTxt) (xs := (cut cycle none (some r9)))) h10))) ea_nil))) rfl rfl))))))))))
theorem ok_normal_form (T : Txt fa fn K mg) : OkF P w K mg base "normal_form" ["lead", "cycle"] 3 (spT K XT F_normal_form) := by
  obtain ⟨fd, F⟩ := T.c.def_ 12 rfl
  exact ⟨fd, fn_normal_form T F, FunD.bindsN F fun _ _ _ _ _ _ us hl => match us, hl with | [_, _], _ => rfl, F.kp, T.glob 18 rfl⟩
end
abbrev mv_DaySet (p : C_DaySet) : MV := mO "DaySet" ["lead", "cycle", "start", "period"] [.val (tv rTxt p.lead), .val (tv rTxt p.cycle), .val (tv rInt p.start), .val (tv rInt p.period)]
abbrev oI_DaySet (p : C_DaySet) : TV := oT "DaySet" ["lead", "cycle", "start", "period"] [tv rTxt p.lead, tv rTxt p.cycle, tv rInt p.start, tv rInt p.period]
abbrev rI_DaySet : Rep C_DaySet := ⟨fun K S v p => (oI_DaySet p).p K S v, fun h q => (oI_DaySet _).mono h q⟩
theorem frz_DaySet {p : C_DaySet} : Frz (mv_DaySet p) (tv rI_DaySet p) := (frz_O (cn := "DaySet") (ns := ["lead", "cycle", "start", "period"]) (is := [.val (tv rTxt p.lead), .val (tv rTxt p.cycle), .val (tv rInt p.start), .val (tv rInt p.period)]) (ts := [tv rTxt p.lead, tv rTxt p.cycle, tv rInt p.start, tv rInt p.period]) (.cons rfl (.cons rfl (.cons rfl (.cons rfl .nil)))) : Frz (mv_DaySet p) (oI_DaySet p))
abbrev st_DaySet____init__ : Stmt := topM 12 0
abbrev NN_DaySet____init__ : List Str := ["self", "lead", "cycle", "first", "again"]
theorem sc_DaySet____init__ : FnScope NN_DaySet____init__ ["self", "lead", "cycle"] (defScope st_DaySet____init__) := ⟨rfl, rfl, rfl, by decide +kernel, rfl, by decide +kernel, by decide +kernel⟩
abbrev F_DaySet____init__ : FS (Unit × (List Nat) × (List Nat)) (Rz Unit C_DaySet) where
  ins := fun x => [.cell 0, .val (tv rTxt x.2.1), .val (tv rTxt x.2.2)]
  cells := fun x => [some (mO "DaySet" [] [])]
  m := fun x => m_DaySet____init__ x.1 x.2.1 x.2.2
  out := fun x w => (match w with
    | .ret w => .vd [some (mv_DaySet w)]
    | .exc y c => .ex y none [none])
section
variable {P : Program} {w : World} {K : PySem.W.Frag} {mg : Str → Option Value} {base : Heap}
set_option maxHeartbeats 4000000 in
theorem fn_DaySet____init__ {fd : FuncData} (T : Txt fa fn K mg) (F : FunD K d13.name d13.qual d13.params d13.body d13.scope (d13.dvs K) (d13.kws K) (He.fAd K d13.at_) fd) : FnOk P w K mg base (L2N.CX P w) 4 (He.ma K (He.ga K "DaySet") "__init__") fd ["self", "lead", "cycle"] (spT K XT F_DaySet____init__) := by
  have sc := sc_DaySet____init__
  obtain ⟨fd0, G0, b0, k0, g0⟩ := ok__only_marks (P := P) (w := w) (base := base) T
  obtain ⟨fd1, G1, b1, k1, g1⟩ := ok_normal_form (P := P) (w := w) (base := base) T
  obtain ⟨fx0, GX0, bx0⟩ := okx_BadText (P := P) (w := w) (base := base) T
  obtain ⟨fx1, GX1, bx1⟩ := okx_TooLong (P := P) (w := w) (base := base) T
  refine F.ok sc (sp_len fun _ => rfl) (fun cdv A outer s H vs Q E hr h => ?_)
  have tk : L2N.Takes (cxOf (L2N.CX P w) P w K mg base NN_DaySet____init__ d13.qual d13.scope (He.fAd K d13.at_) cdv A outer s H E) (fun cls d _ H' => E cls d H') := L2N.takes_of rfl rfl rfl rfl
  refine ⟨_, (pss_cons (ps_if (PW.pt (pw_or (pt_cmpR op_eq (pv 2) pe_str (nomark _)) (pw_or (pt_not (pt_val (pe_call G0 (hr.mono (by decide)) rfl g0 k0 b0 .nil pass0 (pa_cons (pv 1) pa_nil)))) (pw_or1 (pt_not (pt_val (pe_call G0 (hr.mono (by decide)) rfl g0 k0 b0 .nil pass0 (pa_cons (pv 2) pa_nil)))))))) (pss_cons (L2N.ps_raise rfl tk (pmkN_oex (oexB_ok (T.own 13 rfl)) (T.meth 14 rfl).at_ (beq_iff_eq.mp (T.meth 14 rfl).fn) GX0 (hr.mono (by decide)) bx0 (fun _ _ _ _ _ _ _ z => z.elim) rfl (T.glob 15 rfl) (pa_cons pe_int pa_nil))) pss_nil) pss_nil) (pss_cons (ps_asg (pe_call G1 (hr.mono (by decide)) rfl g1 k1 b1 .nil pass0 (pa_cons (pe_callTy (call_list_txt rfl) (by rfl) (T.free 11) (by decide +kernel) (pa_cons (pv 1) pa_nil)) (pa_cons (pe_callTy (call_list_txt rfl) (by rfl) (T.free 11) (by decide +kernel) (pa_cons (pv 2) pa_nil)) pa_nil))) (pg_tup rfl (pgs_cons (pg_name (i := 3) sc.nd rfl (Or.inl rfl)) (pgs_cons (pg_name (i := 4) sc.nd rfl (Or.inl rfl)) pgs_nil)))) (pss_cons (ps_if (pt_cmpR op_gt (pe_op op_add (pe_callB (kLen (K := K)) (by rfl) (T.free 1) (by decide +kernel) (pa_cons (pv 3) pa_nil)) (pe_callB (kLen (K := K)) (by rfl) (T.free 1) (by decide +kernel) (pa_cons (pv 4) pa_nil))) (pe_gcT rfl (T.int 19 rfl)) (nomark _)) (pss_cons (L2N.ps_raise rfl tk (pmkN_oex (oexB_ok (T.own 20 rfl)) (T.meth 21 rfl).at_ (beq_iff_eq.mp (T.meth 21 rfl).fn) GX1 (hr.mono (by decide)) bx1 (fun _ _ _ _ _ _ _ z => z.elim) rfl (T.glob 22 rfl) (pa_cons (pe_gcT rfl (T.int 19 rfl)) pa_nil))) pss_nil) pss_nil) (pss_cons (ps_fld (pv 0) (kJoin (K := K) pe_str (pv 3)) rfl) (pss_cons (ps_fld (pv 0) (kJoin (K := K) pe_str (pv 4)) rfl) (pss_cons (ps_fld (pv 0) (pe_callB (kLen (K := K)) (by rfl) (T.free 1) (by decide +kernel) (pa_cons (pv 3) pa_nil)) rfl) (pss_cons (ps_fld (pv 0) (pe_callB (kLen (K := K)) (by rfl) (T.free 1) (by decide +kernel) (pa_cons (pv 4) pa_nil)) rfl) pss_nil))))))), ?_⟩
  refine sp_body h fun x => ?_
  obtain ⟨self, lead, cycle⟩ := x
  show EvB K _ 1 _ [some (.cell 0), some (.val (tv rTxt lead)), some (.val (tv rTxt cycle)), none, none] [some (mO "DaySet" [] [])] (fun (w : Rz Unit C_DaySet) => ((match w with
    | .ret w => .vd [some (mv_DaySet w)]
    | .exc y c => .ex y none [none]) : OS)) (m_DaySet____init__ self lead cycle)
  unfold m_DaySet____init__
  exact (eb_bind fun r5 h5 => (eb_ifr (et_orM (et_test (ev_op (ev_var rfl) (ev_txt (l := []) (by decide +kernel)) rv_eqX)) h5 (fun _ e6 => bo e6 fun r1 h1 e6 => bo e6 fun r3 h3 e6 => oeT e6 (et_orM (et_not (et_B (ev_call (F := F_only_marks) (x := lead) (ea_cons (ev_var rfl) ea_nil) h1 (ss := [.val (tv rTxt lead)]) (ks := []) ))) h3 (fun _ e4 => bo e4 fun r2 h2 e4 => oeT e4 (et_not (et_B (ev_call (F := F_only_marks) (x := cycle) (ea_cons (ev_var rfl) ea_nil) h2 (ss := [.val (tv rTxt cycle)]) (ks := []) ))))))) (fun _ => (eb_exI (xs_raise (D := ⟨"BadText", ["line"]⟩) (ea_cons ev_int ea_nil) rfl rfl rfl rfl (oexB_ok (T.own 13 rfl))) rfl rfl))
(fun _ => (eb_bind fun r7 h7 => eb_bind fun r8 h8 => eb_bind fun r9 h9 => (eb_asgG (ev_call (F := F_normal_form) (x := ((lead.map fun c => [c]), (cycle.map fun c => [c]))) (ea_cons (ev_lstR (ef_cb1 (ev_var rfl) (rcF_listX h7))) (ea_cons (ev_lstR (ef_cb1 (ev_var rfl) (rcF_listX h8))) ea_nil)) h9 (ss := [.val (tv (rSq .l rTxt) (lead.map fun c => [c])), .val (tv (rSq .l rTxt) (cycle.map fun c => [c]))]) (ks := []) ) eg_tup2
(eb_ifr (et_test (ev_op (ev_op (ev_cb1 (ev_var rfl) (rc_lenL (is_seq (k := .l) (R := rTxt) (xs := r9.1)))) (ev_cb1 (ev_var rfl) (rc_lenL (is_seq (k := .l) (R := rTxt) (xs := r9.2)))) rv_add) ev_int rv_gt)) (fun _ => (eb_exI (xs_raise (D := ⟨"TooLong", ["limit"]⟩) (ea_cons ev_int ea_nil) rfl rfl rfl rfl (oexB_ok (T.own 20 rfl))) rfl rfl))
(fun _ => (eb_bind fun r10 h10 => (eb_fldN none (ev_joinX (ev_txt (l := []) (by decide +kernel)) (ev_var rfl) (is_seq (k := .l) (R := rTxt) (xs := r9.1)) h10) (ev_var rfl) rfl (T.cls 23 rfl) (T.noat 27 rfl) rfl rfl
(eb_bind fun r11 h11 => (eb_fldN none (ev_joinX (ev_txt (l := []) (by decide +kernel)) (ev_var rfl) (is_seq (k := .l) (R := rTxt) (xs := r9.2)) h11) (ev_var rfl) rfl (T.cls 23 rfl) (T.noat 26 rfl) rfl rfl
(eb_fldN none (ev_cb1 (ev_var rfl) (rc_lenL (is_seq (k := .l) (R := rTxt) (xs := r9.1)))) (ev_var rfl) rfl (T.cls 23 rfl) (T.noat 25 rfl) rfl rfl
(eb_fldN none (ev_cb1 (ev_var rfl) (rc_lenL (is_seq (k := .l) (R := rTxt) (xs := r9.2)))) (ev_var rfl) rfl (T.cls 23 rfl) (T.noat 24 rfl) rfl rfl
(eb_end rfl rfl))))))))))))))
theorem ok_DaySet____init__ (T : Txt fa fn K mg) : OkS1 P w K mg base (L2N.CX P w) (He.ma K (He.ga K "DaySet") "__init__") ["self", "lead", "cycle"] 4 (spT K XT F_DaySet____init__) := by
  obtain ⟨fd, F⟩ := T.c.def_ 13 rfl
  exact ⟨fd, fn_DaySet____init__ T F, FunD.bindsN F fun _ _ _ _ _ _ us hl => match us, hl with | [_, _, _], _ => rfl⟩
end
abbrev st_DaySet__only : Stmt := topM 12 2
abbrev NN_DaySet__only : List Str := ["days", "marks", "day"]
theorem sc_DaySet__only : FnScope NN_DaySet__only ["days"] (defScope st_DaySet__only) := ⟨rfl, rfl, rfl, by decide +kernel, rfl, by decide +kernel, by decide +kernel⟩
abbrev F_DaySet__only : FS (List Int) (Rz Unit C_DaySet) where
  ins := fun x => [.val (tv (rSq .t rInt) x)]
  cells := fun x => []
  m := fun x => m_DaySet__only x
  out := fun x w => (match w with
    | .ret w => .rf (mv_DaySet w) []
    | .exc y c => .ex y none [])
section
variable {P : Program} {w : World} {K : PySem.W.Frag} {mg : Str → Option Value} {base : Heap}
set_option maxHeartbeats 4000000 in
theorem fn_DaySet__only {fd : FuncData} (T : Txt fa fn K mg) (F : FunD K e0.name e0.qual e0.params e0.body e0.scope (e0.dvs K) (e0.kws K) (sOf K e0) fd) : FnR P w K mg base (L2N.CX P w) 6 (sAd K (He.ga K "DaySet") "only") (starSp 0 (spT K XT F_DaySet__only)) := by
  have sc := sc_DaySet__only
  obtain ⟨fd0, G0, b0⟩ := ok_DaySet____init__ (P := P) (w := w) (base := base) T
  obtain ⟨⟨oc, od, dV, kV, doc, pm, an, cdv, ct, osl, efd, lk, hcd, hdf, hkw⟩, hkp⟩ := F
  subst efd
  obtain rfl : dV = .none := hdf.elim (fun z => z.2) (fun z => absurd rfl z.1)
  show FnR P w K mg base (L2N.CX P w) 6 (sOf K e0) (starSp 0 (spT K XT F_DaySet__only))
  refine StX.fn_star (ps := []) (pv := "days") lk hcd sc cxUpN (fun us rest hl => ?_) (fun A outer s H vs Q E hr h => ?_)
  · exact match us, rest, hl with
      | [], [], _ => rfl
      | [], _ :: _, _ => rfl
  have tk : L2N.Takes (cxOf (L2N.CX P w) P w K mg base NN_DaySet__only e0.qual e0.scope (sOf K e0) cdv A outer s H E) (fun cls d _ H' => E cls d H') := L2N.takes_of rfl rfl rfl rfl
  refine ⟨_, (pss_cons (ps_set (i := 1) sc.nd rfl (Or.inl rfl) (pe_op op_rep (pe_lst (pa_cons pe_str pa_nil)) (pe_op op_add (pe_callBK (kMaxDf (K := K) rfl (Nat.lt_of_le_of_lt (Nat.add_le_add_left (by decide) _) hr.units)) (by rfl) (T.free 7) (by decide +kernel) (pa_cons (pv 0) pa_nil) (pk_cons (pe_un un_neg pe_int) pk_nil)) pe_int))) (pss_cons (ps_for (passes_of rfl) rfl (kPiT (K := K) (pv 0)) (pg_name (i := 2) sc.nd rfl (Or.inl rfl)) (pss_cons (ps_asg pe_str (pg_sub (pv 1) (pv 2) set_list)) pss_nil)) (pss_cons (ps_ret (pe_makeS (T.mkr 28 rfl) G0 (hr.mono (by decide)) rfl (T.glob 29 rfl) b0 (fun σ => L2N.passAt tk σ) (pa_cons (kJoin (K := K) pe_str (pv 1)) (pa_cons pe_str pa_nil)))) pss_nil))), ?_⟩
  refine sp_body h fun days => ?_
  show EvB K _ 0 _ [some (.val (tv (rSq .t rInt) days)), none, none] [] (fun (w : Rz Unit C_DaySet) => ((match w with
    | .ret w => .rf (mv_DaySet w) []
    | .exc y c => .ex y none []) : OS)) (m_DaySet__only days)
  unfold m_DaySet__only
  exact (eb_bind fun r1 h1 => eb_bind fun marks2 h2 => (eb_asg (ev_own (oeF (R := rTxt) h2 (ev_op (ev_lstR (ef_mkL (R := rTxt) (xs := ([[48]] : List (List Nat))) (ea_cons (ev_txt (l := [48]) (by decide +kernel)) ea_nil))) (ev_op (ev_maxDf (ev_var rfl) ev_neg1 (is_seq (k := .t) (R := rInt) (xs := days))) ev_int rv_add) (rvF_rep (is_seq (k := .l) (R := rTxt) (xs := ([[48]] : List (List Nat)))) h1))))
(eb_for (g := fun (s3 : List (List Nat)) => [some (.val (tv (rSq .t rInt) days)), some (.cell 0), none]) (mu := fun (s3 : List (List Nat)) => [some (mL (s3.map (tv rTxt)))]) (ei_V (ev_var rfl)) (fun _ => trivial) (.keep (.keep (.keep .nil))) (fun _ => rfl) (fun _ _ => eg_name)
(fun s3 x4 => (eb_bind fun r5 h5 => (eb_setI none (ev_txt (l := [49]) (by decide +kernel)) (ev_var rfl) (ev_var rfl) rfl h5
(eb_nil rfl (.keep (.keep (.drop .nil))) rfl (Nat.le_of_ble_eq_true rfl) rfl))))
(fun s3 => eb_bind fun r6 h6 => eb_rz (fun r7 h7 => (eb_retF (ef_make (F := F_DaySet____init__) (cn := "DaySet") (x := ((), (joinX ([] : List Nat) s3), [48])) (ea_cons (ev_joinX (ev_txt (l := []) (by decide +kernel)) (ev_var rfl) (is_cell none rfl) h6) (ea_cons (ev_txt (l := [48]) (by decide +kernel)) ea_nil)) h7 (ss := [.val (tv rTxt (joinX ([] : List Nat) s3)), .val (tv rTxt [48])]) (ks := []) (ps := []) ) rfl rfl (Nat.le_of_ble_eq_true rfl))) (fun x7_ c7 h7 => (eb_ex (xs_ret (ex_make (F := F_DaySet____init__) (cn := "DaySet") (x := ((), (joinX ([] : List Nat) s3), [48])) (ea_cons (ev_joinX (ev_txt (l := []) (by decide +kernel)) (ev_var rfl) (is_cell none rfl) h6) (ea_cons (ev_txt (l := [48]) (by decide +kernel)) ea_nil)) h7 (ss := [.val (tv rTxt (joinX ([] : List Nat) s3)), .val (tv rTxt [48])]) (ks := []) (ps := []) )) rfl rfl))))))
end
abbrev st__law_only_made : Stmt := top 40
abbrev NN__law_only_made : List Str := ["drawn", "count", "a", "problem"]
theorem sc__law_only_made : FnScope NN__law_only_made ["drawn"] (defScope st__law_only_made) := ⟨rfl, rfl, rfl, by decide +kernel, rfl, by decide +kernel, by decide +kernel⟩
abbrev F_law_only_made : FS (List Int) ((List Nat) × (C_DaySet ⊕ Int)) where
  ins := fun x => [.val (tv (rSq .l rInt) x)]
  cells := fun x => []
  m := fun x => m_law_only_made x
  out := fun x w => .rt (tv (rP2 rTxt (rSum rI_DaySet rInt)) w) []
section
variable {P : Program} {w : World} {K : PySem.W.Frag} {mg : Str → Option Value} {base : Heap}
set_option maxHeartbeats 4000000 in
theorem fn__law_only_made {fd : FuncData} (T : Txt fa fn K mg) (F : FunD K d14.name d14.qual d14.params d14.body d14.scope (d14.dvs K) (d14.kws K) (He.fAd K d14.at_) fd) : FnOk P w K mg base CX0 7 (He.ga K "_law_only_made") fd ["drawn"] (spT K XT F_law_only_made) := by
  have sc := sc__law_only_made
  obtain ⟨fd0, F0⟩ := T.c.sdef 0 rfl
  have G0 := (fn_DaySet__only (P := P) (w := w) (base := base) T F0)
  refine F.ok sc (sp_len fun _ => rfl) (fun cdv A outer s H vs Q E hr h => ?_)
  refine ⟨_, PSs.nox (pss_cons (ps_set (i := 1) sc.nd rfl (Or.inl rfl) (pe_callB (kLen (K := K)) (by rfl) (T.free 1) (by decide +kernel) (pa_cons (pv 0) pa_nil))) (pss_cons (ps_set (i := 2) sc.nd rfl (Or.inl rfl) (pe_slice (kSlL (K := K)) (pe_op op_cat (pv 0) (pe_op op_rep (pe_lst (pa_cons pe_int pa_nil)) pe_int)) po_none (po_some pe_int))) (pss_cons (ps_tryH rfl rfl takes0 (fun W' pn xe tk po => (pss_cons (ps_if (pt_cmpR op_eq (pv 1) pe_int (nomark _)) (pss_cons (ps_ret (pe_tup (pa_cons pe_str (pa_cons (pe_statR0 (pl := _) ⟨(baseS_ok (T.own 30 rfl)).1, (baseS_ok (T.own 30 rfl)).2, statB_ok (T.own 31 rfl), (T.own 32 rfl)⟩ G0 (hr.mono (by decide)) rfl (T.glob 29 rfl) (fun σ => L2N.passAt tk σ)) pa_nil)))) pss_nil) pss_nil) (pss_cons (ps_if (pt_cmpR op_eq (pv 1) pe_int (nomark _)) (pss_cons (ps_ret (pe_tup (pa_cons pe_str (pa_cons (pe_statR (pl := _) ⟨(baseS_ok (T.own 30 rfl)).1, (baseS_ok (T.own 30 rfl)).2, statB_ok (T.own 31 rfl), (T.own 32 rfl)⟩ G0 (hr.mono (by decide)) rfl (T.glob 29 rfl) (fun σ => L2N.passAt tk σ) (pa_cons (pe_ix (kIxL (K := K)) (pv 2) pe_int (fun _ _ => rfl)) pa_nil)) pa_nil)))) pss_nil) pss_nil) (pss_cons (ps_if (pt_cmpR op_eq (pv 1) pe_int (nomark _)) (pss_cons (ps_ret (pe_tup (pa_cons pe_str (pa_cons (pe_statR (pl := _) ⟨(baseS_ok (T.own 30 rfl)).1, (baseS_ok (T.own 30 rfl)).2, statB_ok (T.own 31 rfl), (T.own 32 rfl)⟩ G0 (hr.mono (by decide)) rfl (T.glob 29 rfl) (fun σ => L2N.passAt tk σ) (pa_cons (pe_ix (kIxL (K := K)) (pv 2) pe_int (fun _ _ => rfl)) (pa_cons (pe_ix (kIxL (K := K)) (pv 2) pe_int (fun _ _ => rfl)) pa_nil))) pa_nil)))) pss_nil) pss_nil) (pss_cons (ps_if (pt_cmpR op_eq (pv 1) pe_int (nomark _)) (pss_cons (ps_ret (pe_tup (pa_cons pe_str (pa_cons (pe_statR (pl := _) ⟨(baseS_ok (T.own 30 rfl)).1, (baseS_ok (T.own 30 rfl)).2, statB_ok (T.own 31 rfl), (T.own 32 rfl)⟩ G0 (hr.mono (by decide)) rfl (T.glob 29 rfl) (fun σ => L2N.passAt tk σ) (pa_cons (pe_ix (kIxL (K := K)) (pv 2) pe_int (fun _ _ => rfl)) (pa_cons (pe_ix (kIxL (K := K)) (pv 2) pe_int (fun _ _ => rfl)) (pa_cons (pe_ix (kIxL (K := K)) (pv 2) pe_int (fun _ _ => rfl)) pa_nil)))) pa_nil)))) pss_nil) pss_nil) (pss_cons (ps_if (pt_cmpR op_eq (pv 1) pe_int (nomark _)) (pss_cons (ps_ret (pe_tup (pa_cons pe_str (pa_cons (pe_statR (pl := _) ⟨(baseS_ok (T.own 30 rfl)).1, (baseS_ok (T.own 30 rfl)).2, statB_ok (T.own 31 rfl), (T.own 32 rfl)⟩ G0 (hr.mono (by decide)) rfl (T.glob 29 rfl) (fun σ => L2N.passAt tk σ) (pa_cons (pe_ix (kIxL (K := K)) (pv 2) pe_int (fun _ _ => rfl)) (pa_cons (pe_ix (kIxL (K := K)) (pv 2) pe_int (fun _ _ => rfl)) (pa_cons (pe_ix (kIxL (K := K)) (pv 2) pe_int (fun _ _ => rfl)) (pa_cons (pe_ix (kIxL (K := K)) (pv 2) pe_int (fun _ _ => rfl)) (pa_cons (pe_ix (kIxL (K := K)) (pv 2) pe_int (fun _ _ => rfl)) pa_nil)))))) pa_nil)))) pss_nil) pss_nil) (pss_cons (ps_ret (pe_tup (pa_cons pe_str (pa_cons (pe_statR (pl := _) ⟨(baseS_ok (T.own 30 rfl)).1, (baseS_ok (T.own 30 rfl)).2, statB_ok (T.own 31 rfl), (T.own 32 rfl)⟩ G0 (hr.mono (by decide)) rfl (T.glob 29 rfl) (fun σ => L2N.passAt tk σ) (pa_cons (pe_ix (kIxL (K := K)) (pv 2) pe_int (fun _ _ => rfl)) (pa_cons (pe_ix (kIxL (K := K)) (pv 2) pe_int (fun _ _ => rfl)) (pa_cons (pe_ix (kIxL (K := K)) (pv 2) pe_int (fun _ _ => rfl)) (pa_cons (pe_ix (kIxL (K := K)) (pv 2) pe_int (fun _ _ => rfl)) (pa_cons (pe_ix (kIxL (K := K)) (pv 2) pe_int (fun _ _ => rfl)) (pa_cons (pe_ix (kIxL (K := K)) (pv 2) pe_int (fun _ _ => rfl)) (pa_cons (pe_ix (kIxL (K := K)) (pv 2) pe_int (fun _ _ => rfl)) (pa_cons (pe_ix (kIxL (K := K)) (pv 2) pe_int (fun _ _ => rfl)) pa_nil))))))))) pa_nil)))) pss_nil))))))) (.named ⟨rfl, by decide, .inl (T.glob 22 rfl)⟩ sc.nd (i := 3) rfl rfl (fun a_ oe cls_ d_ pn hz hf => (pss_cons (ps_ret (pe_tup (pa_cons pe_str (pa_cons (pe_xf (xsB_ok (T.own 33 rfl)).xf (T.noat 34 rfl) (hz.zc) hf (pv 3)) pa_nil)))) pss_nil)) .nil)) pss_nil))), ?_⟩
  refine sp_body0 h (fun _ _ => trivial) fun drawn => ?_
  show EvB K ⟨XT, fun _ _ _ _ => False⟩ 0 _ [some (.val (tv (rSq .l rInt) drawn)), none, none, none] [] (fun (w : (List Nat) × (C_DaySet ⊕ Int)) => (.rt (tv (rP2 rTxt (rSum rI_DaySet rInt)) w) [] : OS)) (m_law_only_made drawn)
  unfold m_law_only_made
  exact (eb_bind fun count1 h1 => (eb_asg (oeV h1 (ev_cb1 (ev_var rfl) (rc_lenL (is_seq (k := .l) (R := rInt) (xs := drawn)))))
(eb_bind fun r2 h2 => eb_bind fun r3 h3 => eb_bind fun a4 h4 => (eb_asg (ev_lstR (oeF (R := rInt) h4 (ef_slR (ev_lstR (ev_op (ev_var rfl) (ev_lstR (ev_op (ev_lstR (ef_mkL (R := rInt) (xs := ([(0 : Int)] : List Int)) (ea_cons ev_int ea_nil))) ev_int (rvF_rep (is_seq (k := .l) (R := rInt) (xs := ([(0 : Int)] : List Int))) h2))) (rvF_catL (is_seq (k := .l) (R := rInt) (xs := drawn)) (is_seq (k := .l) (R := rInt) (xs := repL ([(0 : Int)] : List Int) (8 : Int))) h3))) eo_none (eo_some ev_int) (is_seq (k := .l) (R := rInt) (xs := (drawn ++ (repL ([(0 : Int)] : List Int) (8 : Int))))))))
(eb_try (κ' := (fun (w : (List Nat) × (C_DaySet ⊕ Int)) => OS.rt (tv (rP2 rTxt (rSum rI_DaySet rInt)) w) [])) (g := fun (s5 : Unit) => [none, none, none, none]) (mu := fun (s5 : Unit) => []) (gx := fun (c6 : Unit) => [some (.val (tv (rSq .l rInt) drawn)), some (.val (tv rInt count1)), some (.val (tv (rSq .l rInt) a4)), none]) (mx := fun (c6 : Unit) => []) (fun W' => (eb_ifr (et_test (ev_op (ev_var rfl) ev_int rv_eqI)) (fun _ => eb_rz (fun r7 h7 => (eb_ret (ev_mk2 (ea_cons (ev_txt (l := [115, 101, 116]) (by decide +kernel)) (ea_cons (ev_inl (ev_frz (ef_callStarS (F := F_DaySet__only) (ss0 := []) (ks := []) (R := rInt) (xs := ([] : List Int)) (x := ([] : List Int)) ea_nil rfl (hz_ble rfl) h7) frz_DaySet)) ea_nil))) rfl rfl)) (fun x7_ c7 h7 => (eb_ex (xs_ret (ex_tup (xa_cons2 (ev_txt (l := [115, 101, 116]) (by decide +kernel)) (xa_cons1 (ex_callStarS (F := F_DaySet__only) (ss0 := []) (ks := []) (R := rInt) (xs := ([] : List Int)) (x := ([] : List Int)) ea_nil rfl (hz_ble rfl) h7))))) rfl rfl (gsO (.keep (.keep (.keep (.keep .nil))))))))
(fun _ => (eb_ifr (et_test (ev_op (ev_var rfl) ev_int rv_eqI)) (fun _ => eb_bind fun r8 h8 => eb_rz (fun r9 h9 => (eb_ret (ev_mk2 (ea_cons (ev_txt (l := [115, 101, 116]) (by decide +kernel)) (ea_cons (ev_inl (ev_frz (ef_callStarS (F := F_DaySet__only) (ss0 := []) (ks := []) (R := rInt) (xs := ([r8] : List Int)) (x := ([r8] : List Int)) (ea_cons (ev_op (ev_var rfl) ev_int (rv_ixL (is_seq (k := .l) (R := rInt) (xs := a4)) (at_map h8))) ea_nil) rfl (hz_ble rfl) h9) frz_DaySet)) ea_nil))) rfl rfl)) (fun x9_ c9 h9 => (eb_ex (xs_ret (ex_tup (xa_cons2 (ev_txt (l := [115, 101, 116]) (by decide +kernel)) (xa_cons1 (ex_callStarS (F := F_DaySet__only) (ss0 := []) (ks := []) (R := rInt) (xs := ([r8] : List Int)) (x := ([r8] : List Int)) (ea_cons (ev_op (ev_var rfl) ev_int (rv_ixL (is_seq (k := .l) (R := rInt) (xs := a4)) (at_map h8))) ea_nil) rfl (hz_ble rfl) h9))))) rfl rfl (gsO (.keep (.keep (.keep (.keep .nil))))))))
(fun _ => (eb_ifr (et_test (ev_op (ev_var rfl) ev_int rv_eqI)) (fun _ => eb_bind fun r10 h10 => eb_bind fun r11 h11 => eb_rz (fun r12 h12 => (eb_ret (ev_mk2 (ea_cons (ev_txt (l := [115, 101, 116]) (by decide +kernel)) (ea_cons (ev_inl (ev_frz (ef_callStarS (F := F_DaySet__only) (ss0 := []) (ks := []) (R := rInt) (xs := ([r10, r11] : List Int)) (x := ([r10, r11] : List Int)) (ea_cons (ev_op (ev_var rfl) ev_int (rv_ixL (is_seq (k := .l) (R := rInt) (xs := a4)) (at_map h10))) (ea_cons (ev_op (ev_var rfl) ev_int (rv_ixL (is_seq (k := .l) (R := rInt) (xs := a4)) (at_map h11))) ea_nil)) rfl (hz_ble rfl) h12) frz_DaySet)) ea_nil))) rfl rfl)) (fun x12_ c12 h12 => (eb_ex (xs_ret (ex_tup (xa_cons2 (ev_txt (l := [115, 101, 116]) (by decide +kernel)) (xa_cons1 (ex_callStarS (F := F_DaySet__only) (ss0 := []) (ks := []) (R := rInt) (xs := ([r10, r11] : List Int)) (x := ([r10, r11] : List Int)) (ea_cons (ev_op (ev_var rfl) ev_int (rv_ixL (is_seq (k := .l) (R := rInt) (xs := a4)) (at_map h10))) (ea_cons (ev_op (ev_var rfl) ev_int (rv_ixL (is_seq (k := .l) (R := rInt) (xs := a4)) (at_map h11))) ea_nil)) rfl (hz_ble rfl) h12))))) rfl rfl (gsO (.keep (.keep (.keep (.keep .nil))))))))
(fun _ => (eb_ifr (et_test (ev_op (ev_var rfl) ev_int rv_eqI)) (fun _ => eb_bind fun r13 h13 => eb_bind fun r14 h14 => eb_bind fun r15 h15 => eb_rz (fun r16 h16 => (eb_ret (ev_mk2 (ea_cons (ev_txt (l := [115, 101, 116]) (by decide +kernel)) (ea_cons (ev_inl (ev_frz (ef_callStarS (F := F_DaySet__only) (ss0 := []) (ks := []) (R := rInt) (xs := ([r13, r14, r15] : List Int)) (x := ([r13, r14, r15] : List Int)) (ea_cons (ev_op (ev_var rfl) ev_int (rv_ixL (is_seq (k := .l) (R := rInt) (xs := a4)) (at_map h13))) (ea_cons (ev_op (ev_var rfl) ev_int (rv_ixL (is_seq (k := .l) (R := rInt) (xs := a4)) (at_map h14))) (ea_cons (ev_op (ev_var rfl) ev_int (rv_ixL (is_seq (k := .l) (R := rInt) (xs := a4)) (at_map h15))) ea_nil))) rfl (hz_ble rfl) h16) frz_DaySet)) ea_nil))) rfl rfl)) (fun x16_ c16 h16 => (eb_ex (xs_ret (ex_tup (xa_cons2 (ev_txt (l := [115, 101, 116]) (by decide +kernel)) (xa_cons1 (ex_callStarS (F := F_DaySet__only) (ss0 := []) (ks := []) (R := rInt) (xs := ([r13, r14, r15] : List Int)) (x := ([r13, r14, r15] : List Int)) (ea_cons (ev_op (ev_var rfl) ev_int (rv_ixL (is_seq (k := .l) (R := rInt) (xs := a4)) (at_map h13))) (ea_cons (ev_op (ev_var rfl) ev_int (rv_ixL (is_seq (k := .l) (R := rInt) (xs := a4)) (at_map h14))) (ea_cons (ev_op (ev_var rfl) ev_int (rv_ixL (is_seq (k := .l) (R := rInt) (xs := a4)) (at_map h15))) ea_nil))) rfl (hz_ble rfl) h16))))) rfl rfl (gsO (.keep (.keep (.keep (.keep .nil))))))))
(fun _ => (eb_ifr (et_test (ev_op (ev_var rfl) ev_int rv_eqI)) (fun _ => eb_bind fun r17 h17 => eb_bind fun r18 h18 => eb_bind fun r19 h19 => eb_bind fun r20 h20 => eb_bind fun r21 h21 => eb_rz (fun r22 h22 => (eb_ret (ev_mk2 (ea_cons (ev_txt (l := [115, 101, 116]) (by decide +kernel)) (ea_cons (ev_inl (ev_frz (ef_callStarS (F := F_DaySet__only) (ss0 := []) (ks := []) (R := rInt) (xs := ([r17, r18, r19, r20, r21] : List Int)) (x := ([r17, r18, r19, r20, r21] : List Int)) (ea_cons (ev_op (ev_var rfl) ev_int (rv_ixL (is_seq (k := .l) (R := rInt) (xs := a4)) (at_map h17))) (ea_cons (ev_op (ev_var rfl) ev_int (rv_ixL (is_seq (k := .l) (R := rInt) (xs := a4)) (at_map h18))) (ea_cons (ev_op (ev_var rfl) ev_int (rv_ixL (is_seq (k := .l) (R := rInt) (xs := a4)) (at_map h19))) (ea_cons (ev_op (ev_var rfl) ev_int (rv_ixL (is_seq (k := .l) (R := rInt) (xs := a4)) (at_map h20))) (ea_cons (ev_op (ev_var rfl) ev_int (rv_ixL (is_seq (k := .l) (R := rInt) (xs := a4)) (at_map h21))) ea_nil))))) rfl (hz_ble rfl) h22) frz_DaySet)) ea_nil))) rfl rfl)) (fun x22_ c22 h22 => (eb_ex (xs_ret (ex_tup (xa_cons2 (ev_txt (l := [115, 101, 116]) (by decide +kernel)) (xa_cons1 (ex_callStarS (F := F_DaySet__only) (ss0 := []) (ks := []) (R := rInt) (xs := ([r17, r18, r19, r20, r21] : List Int)) (x := ([r17, r18, r19, r20, r21] : List Int)) (ea_cons (ev_op (ev_var rfl) ev_int (rv_ixL (is_seq (k := .l) (R := rInt) (xs := a4)) (at_map h17))) (ea_cons (ev_op (ev_var rfl) ev_int (rv_ixL (is_seq (k := .l) (R := rInt) (xs := a4)) (at_map h18))) (ea_cons (ev_op (ev_var rfl) ev_int (rv_ixL (is_seq (k := .l) (R := rInt) (xs := a4)) (at_map h19))) (ea_cons (ev_op (ev_var rfl) ev_int (rv_ixL (is_seq (k := .l) (R := rInt) (xs := a4)) (at_map h20))) (ea_cons (ev_op (ev_var rfl) ev_int (rv_ixL (is_seq (k := .l) (R := rInt) (xs := a4)) (at_map h21))) ea_nil))))) rfl (hz_ble rfl) h22))))) rfl rfl (gsO (.keep (.keep (.keep (.keep .nil))))))))
(fun _ => eb_bind fun r23 h23 => eb_bind fun r24 h24 => eb_bind fun r25 h25 => eb_bind fun r26 h26 => eb_bind fun r27 h27 => eb_bind fun r28 h28 => eb_bind fun r29 h29 => eb_bind fun r30 h30 => eb_rz (fun r31 h31 => (eb_ret (ev_mk2 (ea_cons (ev_txt (l := [115, 101, 116]) (by decide +kernel)) (ea_cons (ev_inl (ev_frz (ef_callStarS (F := F_DaySet__only) (ss0 := []) (ks := []) (R := rInt) (xs := ([r23, r24, r25, r26, r27, r28, r29, r30] : List Int)) (x := ([r23, r24, r25, r26, r27, r28, r29, r30] : List Int)) (ea_cons (ev_op (ev_var rfl) ev_int (rv_ixL (is_seq (k := .l) (R := rInt) (xs := a4)) (at_map h23))) (ea_cons (ev_op (ev_var rfl) ev_int (rv_ixL (is_seq (k := .l) (R := rInt) (xs := a4)) (at_map h24))) (ea_cons (ev_op (ev_var rfl) ev_int (rv_ixL (is_seq (k := .l) (R := rInt) (xs := a4)) (at_map h25))) (ea_cons (ev_op (ev_var rfl) ev_int (rv_ixL (is_seq (k := .l) (R := rInt) (xs := a4)) (at_map h26))) (ea_cons (ev_op (ev_var rfl) ev_int (rv_ixL (is_seq (k := .l) (R := rInt) (xs := a4)) (at_map h27))) (ea_cons (ev_op (ev_var rfl) ev_int (rv_ixL (is_seq (k := .l) (R := rInt) (xs := a4)) (at_map h28))) (ea_cons (ev_op (ev_var rfl) ev_int (rv_ixL (is_seq (k := .l) (R := rInt) (xs := a4)) (at_map h29))) (ea_cons (ev_op (ev_var rfl) ev_int (rv_ixL (is_seq (k := .l) (R := rInt) (xs := a4)) (at_map h30))) ea_nil)))))))) rfl (hz_ble rfl) h31) frz_DaySet)) ea_nil))) rfl rfl)) (fun x31_ c31 h31 => (eb_ex (xs_ret (ex_tup (xa_cons2 (ev_txt (l := [115, 101, 116]) (by decide +kernel)) (xa_cons1 (ex_callStarS (F := F_DaySet__only) (ss0 := []) (ks := []) (R := rInt) (xs := ([r23, r24, r25, r26, r27, r28, r29, r30] : List Int)) (x := ([r23, r24, r25, r26, r27, r28, r29, r30] : List Int)) (ea_cons (ev_op (ev_var rfl) ev_int (rv_ixL (is_seq (k := .l) (R := rInt) (xs := a4)) (at_map h23))) (ea_cons (ev_op (ev_var rfl) ev_int (rv_ixL (is_seq (k := .l) (R := rInt) (xs := a4)) (at_map h24))) (ea_cons (ev_op (ev_var rfl) ev_int (rv_ixL (is_seq (k := .l) (R := rInt) (xs := a4)) (at_map h25))) (ea_cons (ev_op (ev_var rfl) ev_int (rv_ixL (is_seq (k := .l) (R := rInt) (xs := a4)) (at_map h26))) (ea_cons (ev_op (ev_var rfl) ev_int (rv_ixL (is_seq (k := .l) (R := rInt) (xs := a4)) (at_map h27))) (ea_cons (ev_op (ev_var rfl) ev_int (rv_ixL (is_seq (k := .l) (R := rInt) (xs := a4)) (at_map h28))) (ea_cons (ev_op (ev_var rfl) ev_int (rv_ixL (is_seq (k := .l) (R := rInt) (xs := a4)) (at_map h29))) (ea_cons (ev_op (ev_var rfl) ev_int (rv_ixL (is_seq (k := .l) (R := rInt) (xs := a4)) (at_map h30))) ea_nil)))))))) rfl (hz_ble rfl) h31))))) rfl rfl (gsO (.keep (.keep (.keep (.keep .nil)))))))))))))))))) (EvH.cons (i := (some 3)) (ts := fun a_ cls_ d_ => _) (fun n => n == 1) (fun n D e => match n, e with | 0, e => by cases e; exact T.exm 35 rfl | 1, e => by cases e; exact T.exm 36 rfl | (_ + 2), e => by cases e) (fun x32_ c34 a_ cls_ d_ h33 => eb_bind fun r35 h35 => (eb_ret (ev_mk2 (ea_cons (ev_txt (l := [108, 111, 110, 103]) (by decide +kernel)) (ea_cons (ev_inr (ev_xfI (k := 1) (i := 0) (D := ⟨"TooLong", ["limit"]⟩) (ev_var rfl) (beq_iff_eq.mp h33) rfl h35 (fun _ _ hl e => args1 hl e))) ea_nil))) rfl rfl)) (fun _ j e => by cases e; rfl) (fun _ => trivial) (EvH.nil fun x e w h => by cases h)) (fun _ => rfl) (fun _ => trivial) (fun _ => rfl) (fun _ => Nat.le_of_ble_eq_true rfl) (fun _ => Nat.le_of_ble_eq_true rfl) (fun _ => Nat.le_of_ble_eq_true rfl) (fun _ _ => Nat.le_of_ble_eq_true rfl) (fun s5 => eb_stuck))))))
theorem ok__law_only_made (T : Txt fa fn K mg) : OkF P w K mg base "_law_only_made" ["drawn"] 7 (spT K XT F_law_only_made) := by
  obtain ⟨fd, F⟩ := T.c.def_ 14 rfl
  exact ⟨fd, fn__law_only_made T F, FunD.bindsN F fun _ _ _ _ _ _ us hl => match us, hl with | [_], _ => rfl, F.kp, T.glob 37 rfl⟩
end
abbrev st__law_normal : Stmt := top 27
abbrev NN__law_normal : List Str := ["lead", "cycle", "size", "period", "length", "row", "settled"]
theorem sc__law_normal : FnScope NN__law_normal ["lead", "cycle"] (defScope st__law_normal) := ⟨rfl, rfl, rfl, by decide +kernel, rfl, by decide +kernel, by decide +kernel⟩
abbrev F_law_normal : FS ((List Nat) × (List Nat)) ((List Nat) × (List Nat)) where
  ins := fun x => [.val (tv rTxt x.1), .val (tv rTxt x.2)]
  cells := fun x => []
  m := fun x => m_law_normal x.1 x.2
  out := fun x w => .rt (tv (rP2 rTxt rTxt) w) []
section
variable {P : Program} {w : World} {K : PySem.W.Frag} {mg : Str → Option Value} {base : Heap}
set_option maxHeartbeats 4000000 in
theorem fn__law_normal {fd : FuncData} (T : Txt fa fn K mg) (F : FunD K d15.name d15.qual d15.params d15.body d15.scope (d15.dvs K) (d15.kws K) (He.fAd K d15.at_) fd) : FnOk P w K mg base CX0 1 (He.ga K "_law_normal") fd ["lead", "cycle"] (spT K XT F_law_normal) := by
  have sc := sc__law_normal
  refine F.ok sc (sp_len fun _ => rfl) (fun cdv A outer s H vs Q E hr h => ?_)
  refine ⟨_, PSs.nox (pss_cons (ps_set (i := 2) sc.nd rfl (Or.inl rfl) (pe_callB call_len_str (by rfl) (T.free 1) (by decide +kernel) (pa_cons (pv 1) pa_nil))) (pss_cons (ps_set (i := 3) sc.nd rfl (Or.inl rfl) (pv 2)) (pss_cons (ps_for PassesOwn.never rfl (pi_range2 rfl (T.free 4) (pa_cons pe_int (pa_cons (pv 2) pa_nil))) (pg_name (i := 4) sc.nd rfl (Or.inl rfl)) (pss_cons (ps_if (pt_cmpR op_eq (pe_op op_add_str (pe_slice sl_str (pv 1) (po_some (pv 4)) po_none) (pe_slice sl_str (pv 1) po_none (po_some (pv 4)))) (pv 1) (nomark _)) (pss_cons (ps_set (i := 3) sc.nd rfl (Or.inl rfl) (pv 4)) (pss_cons ps_break pss_nil)) pss_nil) pss_nil)) (pss_cons (ps_set (i := 5) sc.nd rfl (Or.inl rfl) (pe_op op_add_str (pe_op op_add_str (pv 0) (pv 1)) (pv 1))) (pss_cons (ps_set (i := 6) sc.nd rfl (Or.inl rfl) (pe_callB call_len_str (by rfl) (T.free 1) (by decide +kernel) (pa_cons (pv 0) pa_nil))) (pss_cons (ps_while PassesOwn.never (PW.pt (pw_and (pt_cmpR op_gt (pv 6) pe_int (nomark _)) (pw_and1 (pt_cmpR op_eq (pe_ix ix_str (pv 5) (pe_op op_sub (pv 6) pe_int) (fun _ _ => rfl)) (pe_ix ix_str (pv 5) (pe_op op_add (pe_op op_sub (pv 6) pe_int) (pv 3)) (fun _ _ => rfl)) (nomark _))))) (pss_cons (ps_set (i := 6) sc.nd rfl (Or.inl rfl) (pe_op op_sub (pv 6) pe_int)) pss_nil)) (pss_cons (ps_ret (pe_tup (pa_cons (pe_slice sl_str (pv 5) po_none (po_some (pv 6))) (pa_cons (pe_slice sl_str (pv 5) (po_some (pv 6)) (po_some (pe_op op_add (pv 6) (pv 3)))) pa_nil)))) pss_nil))))))), ?_⟩
  refine sp_body0 h (fun _ _ => trivial) fun x => ?_
  obtain ⟨lead, cycle⟩ := x
  show EvB K ⟨XT, fun _ _ _ _ => False⟩ 0 _ [some (.val (tv rTxt lead)), some (.val (tv rTxt cycle)), none, none, none, none, none] [] (fun (w : (List Nat) × (List Nat)) => (.rt (tv (rP2 rTxt rTxt) w) [] : OS)) (m_law_normal lead cycle)
  unfold m_law_normal
  exact (eb_bind fun r1 h1 => eb_bind fun size2 h2 => (eb_asg (oeV h2 (ev_cb1 (ev_var rfl) (rc_lenX h1)))
(eb_asg (ev_var rfl)
(eb_bind fun r3 h3 => (eb_for (g := fun (s4 : Int) => [some (.val (tv rTxt lead)), some (.val (tv rTxt cycle)), some (.val (tv rInt size2)), some (.val (tv rInt s4)), none, none, none]) (mu := fun (s4 : Int) => []) (ei_rng2 (ea_cons ev_int (ea_cons (ev_var rfl) ea_nil)) (rngP_ok h3).1 (rngP_ok h3).2) (fun _ => trivial) (.keep (.keep (.keep (.keep (.keep (.keep (.keep .nil))))))) (fun _ => rfl) (fun _ _ => eg_name)
(fun s4 x5 => (eb_bind fun r6 h6 => eb_bind fun r7 h7 => eb_bind fun r8 h8 => (eb_ifl (et_test (ev_op (ev_op (ev_slX (ev_var rfl) (eo_some (ev_var rfl)) eo_none h6) (ev_slX (ev_var rfl) eo_none (eo_some (ev_var rfl)) h7) (rv_catX h8)) (ev_var rfl) rv_eqX)) (fun _ => (eb_asg (ev_var rfl)
(eb_brk rfl (.keep (.keep (.keep (.keep (.drop (.keep (.keep .nil))))))) rfl (Nat.le_of_ble_eq_true rfl) rfl)))
(fun _ => (eb_nil rfl (.keep (.keep (.keep (.keep (.drop (.keep (.keep .nil))))))) rfl (Nat.le_of_ble_eq_true rfl) rfl)))))
(fun s4 => (eb_bind fun r9 h9 => eb_bind fun r10 h10 => eb_bind fun row11 h11 => (eb_asg (oeV h11 (ev_op (ev_op (ev_var rfl) (ev_var rfl) (rv_catX h9)) (ev_var rfl) (rv_catX h10)))
(eb_bind fun r12 h12 => eb_bind fun settled13 h13 => (eb_asg (oeV h13 (ev_cb1 (ev_var rfl) (rc_lenX h12)))
(eb_while (g := fun (s14 : Int) => [some (.val (tv rTxt lead)), some (.val (tv rTxt cycle)), some (.val (tv rInt size2)), some (.val (tv rInt s4)), none, some (.val (tv rTxt row11)), some (.val (tv rInt s14))]) (mu := fun (s14 : Int) => []) rfl (.keep (.keep (.keep (.keep (.keep (.keep (.keep .nil))))))) (fun _ => rfl) (fun s14 b24 e25 => bo e25 fun r19 h19 e25 => oeT e25 (et_andM (et_test (ev_op (ev_var rfl) ev_int rv_gt)) h19 (fun _ e20 => bo e20 fun r15 h15 e20 => bo e20 fun r16 h16 e20 => bo e20 fun r17 h17 e20 => bo e20 fun r18 h18 e20 => oeT e20 (et_test (ev_op (ev_op (ev_var rfl) (ev_op (ev_var rfl) ev_int rv_sub) (rv_ixX h15 h16)) (ev_op (ev_var rfl) (ev_op (ev_op (ev_var rfl) ev_int rv_sub) (ev_var rfl) rv_add) (rv_ixX h17 h18)) rv_eqX)))))
(fun s14 _ => (eb_bind fun settled21 h21 => (eb_asg (oeV h21 (ev_op (ev_var rfl) ev_int rv_sub))
(eb_nil rfl (.keep (.keep (.keep (.keep (.keep (.keep (.keep .nil))))))) rfl (Nat.le_of_ble_eq_true rfl) rfl))))
(fun s14 => eb_bind fun r22 h22 => eb_bind fun r23 h23 => (eb_ret (ev_mk2 (ea_cons (ev_slX (ev_var rfl) eo_none (eo_some (ev_var rfl)) h22) (ea_cons (ev_slX (ev_var rfl) (eo_some (ev_var rfl)) (eo_some (ev_op (ev_var rfl) (ev_var rfl) rv_add)) h23) ea_nil))) rfl rfl)))))))))))))
theorem ok__law_normal (T : Txt fa fn K mg) : OkF P w K mg base "_law_normal" ["lead", "cycle"] 1 (spT K XT F_law_normal) := by
  obtain ⟨fd, F⟩ := T.c.def_ 15 rfl
  exact ⟨fd, fn__law_normal T F, FunD.bindsN F fun _ _ _ _ _ _ us hl => match us, hl with | [_, _], _ => rfl, F.kp, T.glob 38 rfl⟩
end
abbrev st__law_only_due : Stmt := top 41
abbrev NN__law_only_due : List Str := ["drawn", "row", "when"]
theorem sc__law_only_due : FnScope NN__law_only_due ["drawn"] (defScope st__law_only_due) := ⟨rfl, rfl, rfl, by decide +kernel, rfl, by decide +kernel, by decide +kernel⟩
abbrev F_law_only_due : FS (List Int) ((List Nat) × (List Nat)) where
  ins := fun x => [.val (tv (rSq .l rInt) x)]
  cells := fun x => []
  m := fun x => m_law_only_due x
  out := fun x w => .rt (tv (rP2 rTxt rTxt) w) []
section
variable {P : Program} {w : World} {K : PySem.W.Frag} {mg : Str → Option Value} {base : Heap}
set_option maxHeartbeats 4000000 in
theorem fn__law_only_due {fd : FuncData} (T : Txt fa fn K mg) (F : FunD K d16.name d16.qual d16.params d16.body d16.scope (d16.dvs K) (d16.kws K) (He.fAd K d16.at_) fd) : FnOk P w K mg base CX0 2 (He.ga K "_law_only_due") fd ["drawn"] (spT K XT F_law_only_due) := by
  have sc := sc__law_only_due
  obtain ⟨fd0, G0, b0, k0, g0⟩ := ok__law_normal (P := P) (w := w) (base := base) T
  refine F.ok sc (sp_len fun _ => rfl) (fun cdv A outer s H vs Q E hr h => ?_)
  refine ⟨_, PSs.nox (pss_cons (ps_set (i := 1) sc.nd rfl (Or.inl rfl) (pe_op op_mul_txt pe_str (pe_op op_add pe_int (pe_callB (kMaxL (K := K) rfl) (by rfl) (T.free 7) (by decide +kernel) (pa_cons (pe_op op_cat (pe_lst (pa_cons pe_int pa_nil)) (pv 0)) pa_nil))))) (pss_cons (ps_for PassesOwn.never rfl (kPiL (K := K) (pv 0)) (pg_name (i := 2) sc.nd rfl (Or.inl rfl)) (pss_cons (ps_set (i := 1) sc.nd rfl (Or.inl rfl) (pe_op op_add_str (pe_op op_add_str (pe_slice sl_str (pv 1) po_none (po_some (pv 2))) pe_str) (pe_slice sl_str (pv 1) (po_some (pe_op op_add (pv 2) pe_int)) po_none))) pss_nil)) (pss_cons (ps_ret (pe_call G0 (hr.mono (by decide)) rfl g0 k0 b0 .nil pass0 (pa_cons (pv 1) (pa_cons pe_str pa_nil)))) pss_nil))), ?_⟩
  refine sp_body0 h (fun _ _ => trivial) fun drawn => ?_
  show EvB K ⟨XT, fun _ _ _ _ => False⟩ 0 _ [some (.val (tv (rSq .l rInt) drawn)), none, none] [] (fun (w : (List Nat) × (List Nat)) => (.rt (tv (rP2 rTxt rTxt) w) [] : OS)) (m_law_only_due drawn)
  unfold m_law_only_due
  exact (eb_bind fun r1 h1 => eb_bind fun r2 h2 => eb_bind fun r3 h3 => eb_bind fun row4 h4 => (eb_asg (oeV h4 (ev_op (ev_txt (l := [48]) (by decide +kernel)) (ev_op ev_int (ev_cb1 (ev_lstR (ev_op (ev_lstR (ef_mkL (R := rInt) (xs := ([(0 : Int)] : List Int)) (ea_cons ev_int ea_nil))) (ev_var rfl) (rvF_catL (is_seq (k := .l) (R := rInt) (xs := ([(0 : Int)] : List Int))) (is_seq (k := .l) (R := rInt) (xs := drawn)) h1))) (rc_maxL (is_seq (k := .l) (R := rInt) (xs := (([(0 : Int)] : List Int) ++ drawn))) h2)) rv_add) (rv_repX h3)))
(eb_for (g := fun (s5 : List Nat) => [some (.val (tv (rSq .l rInt) drawn)), some (.val (tv rTxt s5)), none]) (mu := fun (s5 : List Nat) => []) (ei_L (ev_var rfl)) (fun _ => trivial) (.keep (.keep (.keep .nil))) (fun _ => rfl) (fun _ _ => eg_name)
(fun s5 x6 => (eb_bind fun r7 h7 => eb_bind fun r8 h8 => eb_bind fun r9 h9 => eb_bind fun r10 h10 => eb_bind fun row11 h11 => (eb_asg (oeV h11 (ev_op (ev_op (ev_slX (ev_var rfl) eo_none (eo_some (ev_var rfl)) h7) (ev_txt (l := [49]) (by decide +kernel)) (rv_catX h8)) (ev_slX (ev_var rfl) (eo_some (ev_op (ev_var rfl) ev_int rv_add)) eo_none h9) (rv_catX h10)))
(eb_nil rfl (.keep (.keep (.drop .nil))) rfl (Nat.le_of_ble_eq_true rfl) rfl))))
(fun s5 => eb_bind fun r12 h12 => (eb_ret (ev_call (F := F_law_normal) (x := (s5, [48])) (ea_cons (ev_var rfl) (ea_cons (ev_txt (l := [48]) (by decide +kernel)) ea_nil)) h12 (ss := [.val (tv rTxt s5), .val (tv rTxt [48])]) (ks := []) ) rfl rfl)))))
theorem ok__law_only_due (T : Txt fa fn K mg) : OkF P w K mg base "_law_only_due" ["drawn"] 2 (spT K XT F_law_only_due) := by
  obtain ⟨fd, F⟩ := T.c.def_ 16 rfl
  exact ⟨fd, fn__law_only_due T F, FunD.bindsN F fun _ _ _ _ _ _ us hl => match us, hl with | [_], _ => rfl, F.kp, T.glob 39 rfl⟩
end
abbrev st__law_integer : Stmt := top 28
abbrev NN__law_integer : List Str := ["actual", "due"]
theorem sc__law_integer : FnScope NN__law_integer ["actual", "due"] (defScope st__law_integer) := ⟨rfl, rfl, rfl, by decide +kernel, rfl, by decide +kernel, by decide +kernel⟩
abbrev F_law_integer : FS (Int × Int) (Bool) where
  ins := fun x => [.val (tv rInt x.1), .val (tv rInt x.2)]
  cells := fun x => []
  m := fun x => m_law_integer x.1 x.2
  out := fun x w => .rt (tv rBool w) []
section
variable {P : Program} {w : World} {K : PySem.W.Frag} {mg : Str → Option Value} {base : Heap}
set_option maxHeartbeats 4000000 in
theorem fn__law_integer {fd : FuncData} (T : Txt fa fn K mg) (F : FunD K d17.name d17.qual d17.params d17.body d17.scope (d17.dvs K) (d17.kws K) (He.fAd K d17.at_) fd) : FnOk P w K mg base CX0 1 (He.ga K "_law_integer") fd ["actual", "due"] (spT K XT F_law_integer) := by
  have sc := sc__law_integer
  refine F.ok sc (sp_len fun _ => rfl) (fun cdv A outer s H vs Q E hr h => ?_)
  refine ⟨_, PSs.nox (pss_cons (ps_ret (pe_and (pe_callB (kIsi (K := K)) (by rfl) (T.free 40) (by decide +kernel) (pa_cons (pv 0) (pa_cons (pe_bltn (v := .ty "int") (by rfl) (T.free 0) (by decide +kernel) rfl) pa_nil))) (pe_and (pe_not (pe_callB (kIsi (K := K)) (by rfl) (T.free 40) (by decide +kernel) (pa_cons (pv 0) (pa_cons (pe_bltn (v := .ty "bool") (by rfl) (T.free 41) (by decide +kernel) rfl) pa_nil)))) (pe_one (pe_cmpR op_eq (pv 0) (pv 1) (nomark _)))))) pss_nil), ?_⟩
  refine sp_body0 h (fun _ _ => trivial) fun x => ?_
  obtain ⟨actual, due⟩ := x
  show EvB K ⟨XT, fun _ _ _ _ => False⟩ 0 _ [some (.val (tv rInt actual)), some (.val (tv rInt due))] [] (fun (w : Bool) => (.rt (tv rBool w) [] : OS)) (m_law_integer actual due)
  unfold m_law_integer
  exact (eb_ret (ev_and0 (ev_cb2 (s2 := .val (rTy "int")) (ev_var rfl) (ev_c fun _ _ => rfl) (rc_isi (R := rInt) (x := actual) ty_int (by decide +kernel))) (ev_and0 (ev_notV (ev_cb2 (s2 := .val (rTy "bool")) (ev_var rfl) (ev_c fun _ _ => rfl) (rc_isi (R := rInt) (x := actual) ty_int (by decide +kernel)))) (ev_op (ev_var rfl) (ev_var rfl) rv_eqI))) rfl rfl)
theorem ok__law_integer (T : Txt fa fn K mg) : OkF P w K mg base "_law_integer" ["actual", "due"] 1 (spT K XT F_law_integer) := by
  obtain ⟨fd, F⟩ := T.c.def_ 17 rfl
  exact ⟨fd, fn__law_integer T F, FunD.bindsN F fun _ _ _ _ _ _ us hl => match us, hl with | [_, _], _ => rfl, F.kp, T.glob 42 rfl⟩
end
abbrev st_DaySet____str__ : Stmt := topM 12 7
abbrev NN_DaySet____str__ : List Str := ["self"]
theorem sc_DaySet____str__ : FnScope NN_DaySet____str__ ["self"] (defScope st_DaySet____str__) := ⟨rfl, rfl, rfl, by decide +kernel, rfl, by decide +kernel, by decide +kernel⟩
abbrev F_DaySet____str__ : FS (C_DaySet) (List Nat) where
  ins := fun x => [.val (tv rI_DaySet x)]
  cells := fun x => []
  m := fun x => m_DaySet____str__ x
  out := fun x w => .rt (tv rTxt w) []
section
variable {P : Program} {w : World} {K : PySem.W.Frag} {mg : Str → Option Value} {base : Heap}
set_option maxHeartbeats 4000000 in
theorem fn_DaySet____str__ {fd : FuncData} (T : Txt fa fn K mg) (F : FunD K d18.name d18.qual d18.params d18.body d18.scope (d18.dvs K) (d18.kws K) (He.fAd K d18.at_) fd) : FnOk P w K mg base CX0 1 (He.ma K (He.ga K "DaySet") "__str__") fd ["self"] (spT K XT F_DaySet____str__) := by
  have sc := sc_DaySet____str__
  refine F.ok sc (sp_len fun _ => rfl) (fun cdv A outer s H vs Q E hr h => ?_)
  refine ⟨_, PSs.nox (pss_cons (ps_ret (pe_joined (.cons (pe_fmt (pe_fld (pv 0) rfl)) (.cons pe_str (.cons (pe_fmt (pe_fld (pv 0) rfl)) (.cons pe_str .nil)))))) pss_nil), ?_⟩
  refine sp_body0 h (fun _ _ => trivial) fun self => ?_
  show EvB K ⟨XT, fun _ _ _ _ => False⟩ 0 _ [some (.val (tv rI_DaySet self))] [] (fun (w : List Nat) => (.rt (tv rTxt w) [] : OS)) (m_DaySet____str__ self)
  unfold m_DaySet____str__
  exact eb_bind fun r1 h1 => eb_bind fun r2 h2 => eb_bind fun r3 h3 => (eb_ret (ev_js (a := (self.lead ++ ([40] ++ (self.cycle ++ ([41] ++ []))))) (ej_cons (ev_fmtX (ev_fldO (ev_as (s' := .val (oI_DaySet self)) (ev_var rfl) rfl) (T.cls 23 rfl) (T.noat 27 rfl) rfl rfl) h1) (ej_cons (ev_txt (l := [40]) (by decide +kernel)) (ej_cons (ev_fmtX (ev_fldO (ev_as (s' := .val (oI_DaySet self)) (ev_var rfl) rfl) (T.cls 23 rfl) (T.noat 26 rfl) rfl rfl) h2) (ej_cons (ev_txt (l := [41]) (by decide +kernel)) ej_nil)))) h3) rfl rfl)
theorem ok_DaySet____str__ (T : Txt fa fn K mg) : OkS1 P w K mg base CX0 (He.ma K (He.ga K "DaySet") "__str__") ["self"] 1 (spT K XT F_DaySet____str__) := by
  obtain ⟨fd, F⟩ := T.c.def_ 18 rfl
  exact ⟨fd, fn_DaySet____str__ T F, FunD.bindsN F fun _ _ _ _ _ _ us hl => match us, hl with | [_], _ => rfl⟩
end
abbrev st__law_shown : Stmt := top 30
abbrev NN__law_shown : List Str := ["days", "due"]
theorem sc__law_shown : FnScope NN__law_shown ["days", "due"] (defScope st__law_shown) := ⟨rfl, rfl, rfl, by decide +kernel, rfl, by decide +kernel, by decide +kernel⟩
abbrev F_law_shown : FS (C_DaySet × ((List Nat) × (List Nat))) (Bool) where
  ins := fun x => [.val (tv rI_DaySet x.1), .val (tv (rP2 rTxt rTxt) x.2)]
  cells := fun x => []
  m := fun x => m_law_shown x.1 x.2
  out := fun x w => .rt (tv rBool w) []
section
variable {P : Program} {w : World} {K : PySem.W.Frag} {mg : Str → Option Value} {base : Heap}
set_option maxHeartbeats 4000000 in
theorem fn__law_shown {fd : FuncData} (T : Txt fa fn K mg) (F : FunD K d19.name d19.qual d19.params d19.body d19.scope (d19.dvs K) (d19.kws K) (He.fAd K d19.at_) fd) : FnOk P w K mg base CX0 4 (He.ga K "_law_shown") fd ["days", "due"] (spT K XT F_law_shown) := by
  have sc := sc__law_shown
  obtain ⟨fd0, G0, b0, k0, g0⟩ := ok__law_integer (P := P) (w := w) (base := base) T
  obtain ⟨fd1, G1, b1⟩ := ok_DaySet____str__ (P := P) (w := w) (base := base) T
  refine F.ok sc (sp_len fun _ => rfl) (fun cdv A outer s H vs Q E hr h => ?_)
  refine ⟨_, PSs.nox (pss_cons (ps_if (pt_not (pt_val (pe_callB (kIsi (K := K)) (by rfl) (T.free 40) (by decide +kernel) (pa_cons (pv 0) (pa_cons (pe_gcT (v := .ref (He.ga K "DaySet")) rfl ⟨_, (T.glob 29 rfl), rfl⟩) pa_nil))))) (pss_cons (ps_ret pe_bl) pss_nil) pss_nil) (pss_cons (ps_if (PW.pt (pw_or (pt_not (pt_val (pe_call G0 (hr.mono (by decide)) rfl g0 k0 b0 .nil pass0 (pa_cons (pe_fld (pv 0) rfl) (pa_cons (pe_callB call_len_str (by rfl) (T.free 1) (by decide +kernel) (pa_cons (pe_ix (kIxT (K := K)) (pv 1) pe_int (fun _ _ => rfl)) pa_nil)) pa_nil))))) (pw_or1 (pt_not (pt_val (pe_call G0 (hr.mono (by decide)) rfl g0 k0 b0 .nil pass0 (pa_cons (pe_fld (pv 0) rfl) (pa_cons (pe_callB call_len_str (by rfl) (T.free 1) (by decide +kernel) (pa_cons (pe_ix (kIxT (K := K)) (pv 1) pe_int (fun _ _ => rfl)) pa_nil)) pa_nil)))))))) (pss_cons (ps_ret pe_bl) pss_nil) pss_nil) (pss_cons (ps_if (PW.pt (pw_or (pt_not (pt_val (pe_callB (kIsi (K := K)) (by rfl) (T.free 40) (by decide +kernel) (pa_cons (pe_fld (pv 0) rfl) (pa_cons (pe_bltn (v := .ty "str") (by rfl) (T.free 45) (by decide +kernel) rfl) pa_nil))))) (pw_or1 (pt_not (pt_val (pe_callB (kIsi (K := K)) (by rfl) (T.free 40) (by decide +kernel) (pa_cons (pe_fld (pv 0) rfl) (pa_cons (pe_bltn (v := .ty "str") (by rfl) (T.free 45) (by decide +kernel) rfl) pa_nil)))))))) (pss_cons (ps_ret pe_bl) pss_nil) pss_nil) (pss_cons (ps_if (PW.pt (pw_or (pt_cmpR op_ne (pe_fld (pv 0) rfl) (pe_ix (kIxT (K := K)) (pv 1) pe_int (fun _ _ => rfl)) (nomark _)) (pw_or1 (pt_cmpR op_ne (pe_fld (pv 0) rfl) (pe_ix (kIxT (K := K)) (pv 1) pe_int (fun _ _ => rfl)) (nomark _))))) (pss_cons (ps_ret pe_bl) pss_nil) pss_nil) (pss_cons (ps_ret (pe_cmpR op_eq (pe_callTy (call_strO (T.meth 46 rfl) G1 (hr.mono (by decide)) b1 pass0) (by rfl) (T.free 45) (by decide +kernel) (pa_cons (pv 0) pa_nil)) (pe_op op_add_str (pe_op op_add_str (pe_op op_add_str (pe_ix (kIxT (K := K)) (pv 1) pe_int (fun _ _ => rfl)) pe_str) (pe_ix (kIxT (K := K)) (pv 1) pe_int (fun _ _ => rfl))) pe_str) (nomark _))) pss_nil))))), ?_⟩
  refine sp_body0 h (fun _ _ => trivial) fun x => ?_
  obtain ⟨days, due⟩ := x
  show EvB K ⟨XT, fun _ _ _ _ => False⟩ 0 _ [some (.val (tv rI_DaySet days)), some (.val (tv (rP2 rTxt rTxt) due))] [] (fun (w : Bool) => (.rt (tv rBool w) [] : OS)) (m_law_shown days due)
  unfold m_law_shown
  exact (eb_ifr (et_not (et_B (ev_cb2 (s2 := .val (rCl K "DaySet")) (ev_as (s' := .val (oI_DaySet days)) (ev_var rfl) rfl) (ev_c fun _ _ => rfl) (rc_isiC (b := true) (tys_ins (insB_ok (T.cls 23 rfl) (T.own 43 rfl))) cl_own (of_decide_eq_true (T.own 44 rfl)))))) (fun h => nomatch h)
(fun _ => (eb_bind fun r1 h1 => eb_bind fun r2 h2 => eb_bind fun r5 h5 => (eb_ifr (et_orM (et_not (et_B (ev_call (F := F_law_integer) (x := (days.start, (due.1.length : Int))) (ea_cons (ev_fldO (ev_as (s' := .val (oI_DaySet days)) (ev_var rfl) rfl) (T.cls 23 rfl) (T.noat 25 rfl) rfl rfl) (ea_cons (ev_cb1 (ev_op (ev_var rfl) ev_int (rv_ixT is_p2 rfl)) (rc_lenX h1)) ea_nil)) h2 (ss := [.val (tv rInt days.start), .val (tv rInt (due.1.length : Int))]) (ks := []) ))) h5 (fun _ e6 => bo e6 fun r3 h3 e6 => bo e6 fun r4 h4 e6 => oeT e6 (et_not (et_B (ev_call (F := F_law_integer) (x := (days.period, (due.2.length : Int))) (ea_cons (ev_fldO (ev_as (s' := .val (oI_DaySet days)) (ev_var rfl) rfl) (T.cls 23 rfl) (T.noat 24 rfl) rfl rfl) (ea_cons (ev_cb1 (ev_op (ev_var rfl) ev_int (rv_ixT is_p2 rfl)) (rc_lenX h3)) ea_nil)) h4 (ss := [.val (tv rInt days.period), .val (tv rInt (due.2.length : Int))]) (ks := []) ))))) (fun _ => (eb_ret ev_bool rfl rfl))
(fun _ => (eb_ifr (et_or0 (et_not (et_B (ev_cb2 (s2 := .val (rTy "str")) (ev_fldO (ev_as (s' := .val (oI_DaySet days)) (ev_var rfl) rfl) (T.cls 23 rfl) (T.noat 27 rfl) rfl rfl) (ev_c fun _ _ => rfl) (rc_isi (R := rTxt) (x := days.lead) ty_txt (by decide +kernel))))) (et_not (et_B (ev_cb2 (s2 := .val (rTy "str")) (ev_fldO (ev_as (s' := .val (oI_DaySet days)) (ev_var rfl) rfl) (T.cls 23 rfl) (T.noat 26 rfl) rfl rfl) (ev_c fun _ _ => rfl) (rc_isi (R := rTxt) (x := days.cycle) ty_txt (by decide +kernel)))))) (fun _ => (eb_ret ev_bool rfl rfl))
(fun _ => (eb_ifr (et_or0 (et_test (ev_op (ev_fldO (ev_as (s' := .val (oI_DaySet days)) (ev_var rfl) rfl) (T.cls 23 rfl) (T.noat 27 rfl) rfl rfl) (ev_op (ev_var rfl) ev_int (rv_ixT is_p2 rfl)) rv_neX)) (et_test (ev_op (ev_fldO (ev_as (s' := .val (oI_DaySet days)) (ev_var rfl) rfl) (T.cls 23 rfl) (T.noat 26 rfl) rfl rfl) (ev_op (ev_var rfl) ev_int (rv_ixT is_p2 rfl)) rv_neX))) (fun _ => (eb_ret ev_bool rfl rfl))
(fun _ => eb_bind fun r7 h7 => eb_bind fun r8 h8 => eb_bind fun r9 h9 => eb_bind fun r10 h10 => (eb_ret (ev_op (ev_cb1 (ev_as (s' := .val (oI_DaySet days)) (ev_var rfl) rfl) (rc_strO (F := F_DaySet____str__) (x := days) (is_insO (m := "__str__") rfl) h7 )) (ev_op (ev_op (ev_op (ev_op (ev_var rfl) ev_int (rv_ixT is_p2 rfl)) (ev_txt (l := [40]) (by decide +kernel)) (rv_catX h8)) (ev_op (ev_var rfl) ev_int (rv_ixT is_p2 rfl)) (rv_catX h9)) (ev_txt (l := [41]) (by decide +kernel)) (rv_catX h10)) rv_eqX) rfl rfl))))))))))
theorem ok__law_shown (T : Txt fa fn K mg) : OkF P w K mg base "_law_shown" ["days", "due"] 4 (spT K XT F_law_shown) := by
  obtain ⟨fd, F⟩ := T.c.def_ 19 rfl
  exact ⟨fd, fn__law_shown T F, FunD.bindsN F fun _ _ _ _ _ _ us hl => match us, hl with | [_, _], _ => rfl, F.kp, T.glob 47 rfl⟩
end
abbrev st__law_as_due : Stmt := top 49
abbrev NN__law_as_due : List Str := ["outcome", "due"]
theorem sc__law_as_due : FnScope NN__law_as_due ["outcome", "due"] (defScope st__law_as_due) := ⟨rfl, rfl, rfl, by decide +kernel, rfl, by decide +kernel, by decide +kernel⟩
abbrev F_law_as_due : FS (((List Nat) × (C_DaySet ⊕ Int)) × ((List Nat) × (List Nat))) (Bool) where
  ins := fun x => [.val (tv (rP2 rTxt (rSum rI_DaySet rInt)) x.1), .val (tv (rP2 rTxt rTxt) x.2)]
  cells := fun x => []
  m := fun x => m_law_as_due x.1 x.2
  out := fun x w => .rt (tv rBool w) []
section
variable {P : Program} {w : World} {K : PySem.W.Frag} {mg : Str → Option Value} {base : Heap}
set_option maxHeartbeats 4000000 in
theorem fn__law_as_due {fd : FuncData} (T : Txt fa fn K mg) (F : FunD K d20.name d20.qual d20.params d20.body d20.scope (d20.dvs K) (d20.kws K) (He.fAd K d20.at_) fd) : FnOk P w K mg base CX0 5 (He.ga K "_law_as_due") fd ["outcome", "due"] (spT K XT F_law_as_due) := by
  have sc := sc__law_as_due
  obtain ⟨fd0, G0, b0, k0, g0⟩ := ok__law_integer (P := P) (w := w) (base := base) T
  obtain ⟨fd1, G1, b1, k1, g1⟩ := ok__law_shown (P := P) (w := w) (base := base) T
  refine F.ok sc (sp_len fun _ => rfl) (fun cdv A outer s H vs Q E hr h => ?_)
  refine ⟨_, PSs.nox (pss_cons (ps_if (pt_cmpR op_gt (pe_op op_add (pe_callB call_len_str (by rfl) (T.free 1) (by decide +kernel) (pa_cons (pe_ix (kIxT (K := K)) (pv 1) pe_int (fun _ _ => rfl)) pa_nil)) (pe_callB call_len_str (by rfl) (T.free 1) (by decide +kernel) (pa_cons (pe_ix (kIxT (K := K)) (pv 1) pe_int (fun _ _ => rfl)) pa_nil))) pe_int (nomark _)) (pss_cons (ps_ret (pe_and (pe_cmpR op_eq (pe_ix (kIxT (K := K)) (pv 0) pe_int (fun _ _ => rfl)) pe_str (nomark _)) (pe_one (pe_call G0 (hr.mono (by decide)) rfl g0 k0 b0 .nil pass0 (pa_cons (pe_ix (kIxT (K := K)) (pv 0) pe_int (fun _ _ => rfl)) (pa_cons pe_int pa_nil)))))) pss_nil) pss_nil) (pss_cons (ps_ret (pe_and (pe_cmpR op_eq (pe_ix (kIxT (K := K)) (pv 0) pe_int (fun _ _ => rfl)) pe_str (nomark _)) (pe_one (pe_call G1 (hr.mono (by decide)) rfl g1 k1 b1 .nil pass0 (pa_cons (pe_ix (kIxT (K := K)) (pv 0) pe_int (fun _ _ => rfl)) (pa_cons (pv 1) pa_nil)))))) pss_nil)), ?_⟩
  refine sp_body0 h (fun _ _ => trivial) fun x => ?_
  obtain ⟨outcome, due⟩ := x
  show EvB K ⟨XT, fun _ _ _ _ => False⟩ 0 _ [some (.val (tv (rP2 rTxt (rSum rI_DaySet rInt)) outcome)), some (.val (tv (rP2 rTxt rTxt) due))] [] (fun (w : Bool) => (.rt (tv rBool w) [] : OS)) (m_law_as_due outcome due)
  unfold m_law_as_due
  exact (eb_bind fun r1 h1 => eb_bind fun r2 h2 => (eb_ifr (et_test (ev_op (ev_op (ev_cb1 (ev_op (ev_var rfl) ev_int (rv_ixT is_p2 rfl)) (rc_lenX h1)) (ev_cb1 (ev_op (ev_var rfl) ev_int (rv_ixT is_p2 rfl)) (rc_lenX h2)) rv_add) ev_int rv_gt)) (fun _ => eb_bind fun r5 h5 => (eb_ret (ev_andM (ev_op (ev_op (ev_var rfl) ev_int (rv_ixT is_p2 rfl)) (ev_txt (l := [108, 111, 110, 103]) (by decide +kernel)) rv_eqX) h5 (fun _ e6 => bo e6 fun r3 h3 e6 => bo e6 fun r4 h4 e6 => oeV e6 (ev_call (F := F_law_integer) (x := (r3, (5000 : Int))) (ea_cons (ev_sgetR (ev_op (ev_var rfl) ev_int (rv_ixT is_p2 rfl)) h3) (ea_cons ev_int ea_nil)) h4 (ss := [.val (tv rInt r3), .val (tv rInt (5000 : Int))]) (ks := []) ))) rfl rfl))
(fun _ => eb_bind fun r9 h9 => (eb_ret (ev_andM (ev_op (ev_op (ev_var rfl) ev_int (rv_ixT is_p2 rfl)) (ev_txt (l := [115, 101, 116]) (by decide +kernel)) rv_eqX) h9 (fun _ e10 => bo e10 fun r7 h7 e10 => bo e10 fun r8 h8 e10 => oeV e10 (ev_call (F := F_law_shown) (x := (r7, due)) (ea_cons (ev_sgetL (ev_op (ev_var rfl) ev_int (rv_ixT is_p2 rfl)) h7) (ea_cons (ev_var rfl) ea_nil)) h8 (ss := [.val (tv rI_DaySet r7), .val (tv (rP2 rTxt rTxt) due)]) (ks := []) ))) rfl rfl))))
theorem ok__law_as_due (T : Txt fa fn K mg) : OkF P w K mg base "_law_as_due" ["outcome", "due"] 5 (spT K XT F_law_as_due) := by
  obtain ⟨fd, F⟩ := T.c.def_ 20 rfl
  exact ⟨fd, fn__law_as_due T F, FunD.bindsN F fun _ _ _ _ _ _ us hl => match us, hl with | [_, _], _ => rfl, F.kp, T.glob 48 rfl⟩
end
abbrev st__law_bound_day : Stmt := top 42
abbrev NN__law_bound_day : List Str := ["box", "way"]
theorem sc__law_bound_day : FnScope NN__law_bound_day ["box"] (defScope st__law_bound_day) := ⟨rfl, rfl, rfl, by decide +kernel, rfl, by decide +kernel, by decide +kernel⟩
abbrev F_law_bound_day : FS (H_law_box) (Int × H_law_box) where
  ins := fun x => [.cell 0]
  cells := fun x => [some (mv_H_law_box x)]
  m := fun x => m_law_bound_day x
  out := fun x w => .rt (tv rInt w.1) [some (mv_H_law_box w.2)]
section
variable {P : Program} {w : World} {K : PySem.W.Frag} {mg : Str → Option Value} {base : Heap}
set_option maxHeartbeats 4000000 in
theorem fn__law_bound_day {fd : FuncData} (T : Txt fa fn K mg) (F : FunD K d21.name d21.qual d21.params d21.body d21.scope (d21.dvs K) (d21.kws K) (He.fAd K d21.at_) fd) : FnOk P w K mg base CX0 2 (He.ga K "_law_bound_day") fd ["box"] (spT K XT F_law_bound_day) := by
  have sc := sc__law_bound_day
  obtain ⟨fd0, G0, b0, k0, g0⟩ := ok__law_take (P := P) (w := w) (base := base) T
  refine F.ok sc (sp_len fun _ => rfl) (fun cdv A outer s H vs Q E hr h => ?_)
  refine ⟨_, PSs.nox (pss_cons (ps_set (i := 1) sc.nd rfl (Or.inl rfl) (pe_call G0 (hr.mono (by decide)) rfl g0 k0 b0 .nil pass0 (pa_cons (pv 0) (pa_cons pe_int pa_nil)))) (pss_cons (ps_if (pt_cmpR op_eq (pv 1) pe_int (nomark _)) (pss_cons (ps_ret (pe_op op_add pe_int (pe_call G0 (hr.mono (by decide)) rfl g0 k0 b0 .nil pass0 (pa_cons (pv 0) (pa_cons pe_int pa_nil))))) pss_nil) pss_nil) (pss_cons (ps_if (pt_cmpR op_eq (pv 1) pe_int (nomark _)) (pss_cons (ps_ret (pe_op op_add pe_int (pe_call G0 (hr.mono (by decide)) rfl g0 k0 b0 .nil pass0 (pa_cons (pv 0) (pa_cons pe_int pa_nil))))) pss_nil) pss_nil) (pss_cons (ps_ret (pe_call G0 (hr.mono (by decide)) rfl g0 k0 b0 .nil pass0 (pa_cons (pv 0) (pa_cons pe_int pa_nil)))) pss_nil)))), ?_⟩
  refine sp_body0 h (fun _ _ => trivial) fun box => ?_
  show EvB K ⟨XT, fun _ _ _ _ => False⟩ 1 _ [some (.cell 0), none] [some (mv_H_law_box box)] (fun (w : Int × H_law_box) => (.rt (tv rInt w.1) [some (mv_H_law_box w.2)] : OS)) (m_law_bound_day box)
  unfold m_law_bound_day
  exact (eb_bind fun r1 h1 => (eb_asg (ev_call (F := F_law_take) (x := (box, (6 : Int))) (ea_cons (ev_var rfl) (ea_cons ev_int ea_nil)) h1 (ss := [.cell 0, .val (tv rInt (6 : Int))]) (ks := [0]) )
(eb_ifr (et_test (ev_op (ev_var rfl) ev_int rv_eqI)) (fun _ => eb_bind fun r2 h2 => (eb_ret (ev_op ev_int (ev_call (F := F_law_take) (x := (r1.2, (6 : Int))) (ea_cons (ev_var rfl) (ea_cons ev_int ea_nil)) h2 (ss := [.cell 0, .val (tv rInt (6 : Int))]) (ks := [0]) ) rv_add) rfl rfl))
(fun _ => (eb_ifr (et_test (ev_op (ev_var rfl) ev_int rv_eqI)) (fun _ => eb_bind fun r3 h3 => (eb_ret (ev_op ev_int (ev_call (F := F_law_take) (x := (r1.2, (11 : Int))) (ea_cons (ev_var rfl) (ea_cons ev_int ea_nil)) h3 (ss := [.cell 0, .val (tv rInt (11 : Int))]) (ks := [0]) ) rv_add) rfl rfl))
(fun _ => eb_bind fun r4 h4 => (eb_ret (ev_call (F := F_law_take) (x := (r1.2, (25 : Int))) (ea_cons (ev_var rfl) (ea_cons ev_int ea_nil)) h4 (ss := [.cell 0, .val (tv rInt (25 : Int))]) (ks := [0]) ) rfl rfl)))))))
theorem ok__law_bound_day (T : Txt fa fn K mg) : OkF P w K mg base "_law_bound_day" ["box"] 2 (spT K XT F_law_bound_day) := by
  obtain ⟨fd, F⟩ := T.c.def_ 21 rfl
  exact ⟨fd, fn__law_bound_day T F, FunD.bindsN F fun _ _ _ _ _ _ us hl => match us, hl with | [_], _ => rfl, F.kp, T.glob 49 rfl⟩
end
abbrev st_DaySet__span : Stmt := topM 12 3
abbrev NN_DaySet__span : List Str := ["first", "last"]
theorem sc_DaySet__span : FnScope NN_DaySet__span ["first", "last"] (defScope st_DaySet__span) := ⟨rfl, rfl, rfl, by decide +kernel, rfl, by decide +kernel, by decide +kernel⟩
abbrev F_DaySet__span : FS (Int × Int) (Rz Unit C_DaySet) where
  ins := fun x => [.val (tv rInt x.1), .val (tv rInt x.2)]
  cells := fun x => []
  m := fun x => m_DaySet__span x.1 x.2
  out := fun x w => (match w with
    | .ret w => .rf (mv_DaySet w) []
    | .exc y c => .ex y none [])
section
variable {P : Program} {w : World} {K : PySem.W.Frag} {mg : Str → Option Value} {base : Heap}
set_option maxHeartbeats 4000000 in
theorem fn_DaySet__span {fd : FuncData} (T : Txt fa fn K mg) (F : FunD K e1.name e1.qual e1.params e1.body e1.scope (e1.dvs K) (e1.kws K) (sOf K e1) fd) : FnOk P w K mg base (L2N.CX P w) 6 (sAd K (He.ga K "DaySet") "span") fd ["first", "last"] (spT K XT F_DaySet__span) := by
  have sc := sc_DaySet__span
  obtain ⟨fd0, G0, b0⟩ := ok_DaySet____init__ (P := P) (w := w) (base := base) T
  refine F.ok sc (sp_len fun _ => rfl) (fun cdv A outer s H vs Q E hr h => ?_)
  have tk : L2N.Takes (cxOf (L2N.CX P w) P w K mg base NN_DaySet__span e1.qual e1.scope (sOf K e1) cdv A outer s H E) (fun cls d _ H' => E cls d H') := L2N.takes_of rfl rfl rfl rfl
  refine ⟨_, (pss_cons (ps_if (pt_cmpR op_lt (pv 1) (pv 0) (nomark _)) (pss_cons (ps_ret (pe_makeS (T.mkr 28 rfl) G0 (hr.mono (by decide)) rfl (T.glob 29 rfl) b0 (fun σ => L2N.passAt tk σ) (pa_cons pe_str (pa_cons pe_str pa_nil)))) pss_nil) pss_nil) (pss_cons (ps_ret (pe_makeS (T.mkr 28 rfl) G0 (hr.mono (by decide)) rfl (T.glob 29 rfl) b0 (fun σ => L2N.passAt tk σ) (pa_cons (pe_op op_add_str (pe_op op_mul_txt pe_str (pv 0)) (pe_op op_mul_txt pe_str (pe_op op_add (pe_op op_sub (pv 1) (pv 0)) pe_int))) (pa_cons pe_str pa_nil)))) pss_nil)), ?_⟩
  refine sp_body h fun x => ?_
  obtain ⟨first, last⟩ := x
  show EvB K _ 0 _ [some (.val (tv rInt first)), some (.val (tv rInt last))] [] (fun (w : Rz Unit C_DaySet) => ((match w with
    | .ret w => .rf (mv_DaySet w) []
    | .exc y c => .ex y none []) : OS)) (m_DaySet__span first last)
  unfold m_DaySet__span
  exact (eb_ifr (et_test (ev_op (ev_var rfl) (ev_var rfl) rv_lt)) (fun _ => eb_rz (fun r1 h1 => (eb_retF (ef_make (F := F_DaySet____init__) (cn := "DaySet") (x := ((), ([] : List Nat), [48])) (ea_cons (ev_txt (l := []) (by decide +kernel)) (ea_cons (ev_txt (l := [48]) (by decide +kernel)) ea_nil)) h1 (ss := [.val (tv rTxt ([] : List Nat)), .val (tv rTxt [48])]) (ks := []) (ps := []) ) rfl rfl (Nat.le_of_ble_eq_true rfl))) (fun x1_ c1 h1 => (eb_ex (xs_ret (ex_make (F := F_DaySet____init__) (cn := "DaySet") (x := ((), ([] : List Nat), [48])) (ea_cons (ev_txt (l := []) (by decide +kernel)) (ea_cons (ev_txt (l := [48]) (by decide +kernel)) ea_nil)) h1 (ss := [.val (tv rTxt ([] : List Nat)), .val (tv rTxt [48])]) (ks := []) (ps := []) )) rfl rfl)))
(fun _ => eb_bind fun r2 h2 => eb_bind fun r3 h3 => eb_bind fun r4 h4 => eb_rz (fun r5 h5 => (eb_retF (ef_make (F := F_DaySet____init__) (cn := "DaySet") (x := ((), ((repL [48] first) ++ (repL [49] ((last - first) + (1 : Int)))), [48])) (ea_cons (ev_op (ev_op (ev_txt (l := [48]) (by decide +kernel)) (ev_var rfl) (rv_repX h2)) (ev_op (ev_txt (l := [49]) (by decide +kernel)) (ev_op (ev_op (ev_var rfl) (ev_var rfl) rv_sub) ev_int rv_add) (rv_repX h3)) (rv_catX h4)) (ea_cons (ev_txt (l := [48]) (by decide +kernel)) ea_nil)) h5 (ss := [.val (tv rTxt ((repL [48] first) ++ (repL [49] ((last - first) + (1 : Int))))), .val (tv rTxt [48])]) (ks := []) (ps := []) ) rfl rfl (Nat.le_of_ble_eq_true rfl))) (fun x5_ c5 h5 => (eb_ex (xs_ret (ex_make (F := F_DaySet____init__) (cn := "DaySet") (x := ((), ((repL [48] first) ++ (repL [49] ((last - first) + (1 : Int)))), [48])) (ea_cons (ev_op (ev_op (ev_txt (l := [48]) (by decide +kernel)) (ev_var rfl) (rv_repX h2)) (ev_op (ev_txt (l := [49]) (by decide +kernel)) (ev_op (ev_op (ev_var rfl) (ev_var rfl) rv_sub) ev_int rv_add) (rv_repX h3)) (rv_catX h4)) (ea_cons (ev_txt (l := [48]) (by decide +kernel)) ea_nil)) h5 (ss := [.val (tv rTxt ((repL [48] first) ++ (repL [49] ((last - first) + (1 : Int))))), .val (tv rTxt [48])]) (ks := []) (ps := []) )) rfl rfl))))
theorem ok_DaySet__span (T : Txt fa fn K mg) : OkS1 P w K mg base (L2N.CX P w) (sAd K (He.ga K "DaySet") "span") ["first", "last"] 6 (spT K XT F_DaySet__span) := by
  obtain ⟨fd, F⟩ := T.c.sdef 1 rfl
  exact ⟨fd, fn_DaySet__span T F, FunD.bindsN F fun _ _ _ _ _ _ us hl => match us, hl with | [_, _], _ => rfl⟩
end
abbrev st__law_span_made : Stmt := top 43
abbrev NN__law_span_made : List Str := ["named", "head", "tail", "problem"]
theorem sc__law_span_made : FnScope NN__law_span_made ["named", "head", "tail"] (defScope st__law_span_made) := ⟨rfl, rfl, rfl, by decide +kernel, rfl, by decide +kernel, by decide +kernel⟩
abbrev F_law_span_made : FS (Bool × Int × Int) ((List Nat) × (C_DaySet ⊕ Int)) where
  ins := fun x => [.val (tv rBool x.1), .val (tv rInt x.2.1), .val (tv rInt x.2.2)]
  cells := fun x => []
  m := fun x => m_law_span_made x.1 x.2.1 x.2.2
  out := fun x w => .rt (tv (rP2 rTxt (rSum rI_DaySet rInt)) w) []
section
variable {P : Program} {w : World} {K : PySem.W.Frag} {mg : Str → Option Value} {base : Heap}
set_option maxHeartbeats 4000000 in
theorem fn__law_span_made {fd : FuncData} (T : Txt fa fn K mg) (F : FunD K d22.name d22.qual d22.params d22.body d22.scope (d22.dvs K) (d22.kws K) (He.fAd K d22.at_) fd) : FnOk P w K mg base CX0 7 (He.ga K "_law_span_made") fd ["named", "head", "tail"] (spT K XT F_law_span_made) := by
  have sc := sc__law_span_made
  obtain ⟨fd0, F0⟩ := T.c.sdef 1 rfl
  have G0 := (fn_DaySet__span (P := P) (w := w) (base := base) T F0)
  have b0 := FunD.bindsN (ps := ["first", "last"]) F0 fun _ _ _ _ _ _ us hl => match us, hl with | [_, _], _ => rfl
  have kb0 := kbnN (ps := ["first", "last"]) F0 0 ["first", "last"] fun _ _ _ _ _ _ us ws l1 l2 => match us, ws, l1, l2 with | [], [_, _], _, _ => rfl
  refine F.ok sc (sp_len fun _ => rfl) (fun cdv A outer s H vs Q E hr h => ?_)
  refine ⟨_, PSs.nox (pss_cons (ps_tryH rfl rfl takes0 (fun W' pn xe tk po => (pss_cons (ps_if (pt_val (pv 0)) (pss_cons (ps_ret (pe_tup (pa_cons pe_str (pa_cons (pe_statK0 (pl := _) ⟨(baseS_ok (T.own 30 rfl)).1, (baseS_ok (T.own 30 rfl)).2, statB_ok (T.own 50 rfl), (T.own 51 rfl)⟩ G0 (hr.mono (by decide)) rfl (T.glob 29 rfl) kb0 (fun σ => L2N.passAt tk σ) (pk_cons (pv 1) (pk_cons (pv 2) pk_nil))) pa_nil)))) pss_nil) pss_nil) (pss_cons (ps_ret (pe_tup (pa_cons pe_str (pa_cons (pe_stat (pl := _) ⟨(baseS_ok (T.own 30 rfl)).1, (baseS_ok (T.own 30 rfl)).2, statB_ok (T.own 50 rfl), (T.own 51 rfl)⟩ G0 (hr.mono (by decide)) rfl (T.glob 29 rfl) b0 (fun σ => L2N.passAt tk σ) (pa_cons (pv 1) (pa_cons (pv 2) pa_nil))) pa_nil)))) pss_nil))) (.named ⟨rfl, by decide, .inl (T.glob 22 rfl)⟩ sc.nd (i := 3) rfl rfl (fun a_ oe cls_ d_ pn hz hf => (pss_cons (ps_ret (pe_tup (pa_cons pe_str (pa_cons (pe_xf (xsB_ok (T.own 33 rfl)).xf (T.noat 34 rfl) (hz.zc) hf (pv 3)) pa_nil)))) pss_nil)) .nil)) pss_nil), ?_⟩
  refine sp_body0 h (fun _ _ => trivial) fun x => ?_
  obtain ⟨named, head, tail⟩ := x
  show EvB K ⟨XT, fun _ _ _ _ => False⟩ 0 _ [some (.val (tv rBool named)), some (.val (tv rInt head)), some (.val (tv rInt tail)), none] [] (fun (w : (List Nat) × (C_DaySet ⊕ Int)) => (.rt (tv (rP2 rTxt (rSum rI_DaySet rInt)) w) [] : OS)) (m_law_span_made named head tail)
  unfold m_law_span_made
  exact (eb_try (κ' := (fun (w : (List Nat) × (C_DaySet ⊕ Int)) => OS.rt (tv (rP2 rTxt (rSum rI_DaySet rInt)) w) [])) (g := fun (s1 : Unit) => [none, none, none, none]) (mu := fun (s1 : Unit) => []) (gx := fun (c2 : Unit) => [some (.val (tv rBool named)), some (.val (tv rInt head)), some (.val (tv rInt tail)), none]) (mx := fun (c2 : Unit) => []) (fun W' => (eb_ifr (et_B (ev_var rfl)) (fun _ => eb_rz (fun r3 h3 => (eb_ret (ev_mk2 (ea_cons (ev_txt (l := [115, 101, 116]) (by decide +kernel)) (ea_cons (ev_inl (ev_frz (ef_callS (F := F_DaySet__span) (x := (head, tail)) (ea_kw ea_nil (ea_cons (ev_var rfl) (ea_cons (ev_var rfl) ea_nil)) (fun S ls vs zs a b => Paired.app a b)) h3 (ss := [.val (tv rInt head), .val (tv rInt tail)]) (ks := []) (ps := []) ) frz_DaySet)) ea_nil))) rfl rfl)) (fun x3_ c3 h3 => (eb_ex (xs_ret (ex_tup (xa_cons2 (ev_txt (l := [115, 101, 116]) (by decide +kernel)) (xa_cons1 (ex_callS (F := F_DaySet__span) (x := (head, tail)) (ea_kw ea_nil (ea_cons (ev_var rfl) (ea_cons (ev_var rfl) ea_nil)) (fun S ls vs zs a b => Paired.app a b)) h3 (ss := [.val (tv rInt head), .val (tv rInt tail)]) (ks := []) (ps := []) ))))) rfl rfl (gsO (.keep (.keep (.keep (.keep .nil))))))))
(fun _ => eb_rz (fun r4 h4 => (eb_ret (ev_mk2 (ea_cons (ev_txt (l := [115, 101, 116]) (by decide +kernel)) (ea_cons (ev_inl (ev_frz (ef_callS (F := F_DaySet__span) (x := (head, tail)) (ea_cons (ev_var rfl) (ea_cons (ev_var rfl) ea_nil)) h4 (ss := [.val (tv rInt head), .val (tv rInt tail)]) (ks := []) (ps := []) ) frz_DaySet)) ea_nil))) rfl rfl)) (fun x4_ c4 h4 => (eb_ex (xs_ret (ex_tup (xa_cons2 (ev_txt (l := [115, 101, 116]) (by decide +kernel)) (xa_cons1 (ex_callS (F := F_DaySet__span) (x := (head, tail)) (ea_cons (ev_var rfl) (ea_cons (ev_var rfl) ea_nil)) h4 (ss := [.val (tv rInt head), .val (tv rInt tail)]) (ks := []) (ps := []) ))))) rfl rfl (gsO (.keep (.keep (.keep (.keep .nil)))))))))) (EvH.cons (i := (some 3)) (ts := fun a_ cls_ d_ => _) (fun n => n == 1) (fun n D e => match n, e with | 0, e => by cases e; exact T.exm 35 rfl | 1, e => by cases e; exact T.exm 36 rfl | (_ + 2), e => by cases e) (fun x5_ c7 a_ cls_ d_ h6 => eb_bind fun r8 h8 => (eb_ret (ev_mk2 (ea_cons (ev_txt (l := [108, 111, 110, 103]) (by decide +kernel)) (ea_cons (ev_inr (ev_xfI (k := 1) (i := 0) (D := ⟨"TooLong", ["limit"]⟩) (ev_var rfl) (beq_iff_eq.mp h6) rfl h8 (fun _ _ hl e => args1 hl e))) ea_nil))) rfl rfl)) (fun _ j e => by cases e; rfl) (fun _ => trivial) (EvH.nil fun x e w h => by cases h)) (fun _ => rfl) (fun _ => trivial) (fun _ => rfl) (fun _ => Nat.le_of_ble_eq_true rfl) (fun _ => Nat.le_of_ble_eq_true rfl) (fun _ => Nat.le_of_ble_eq_true rfl) (fun _ _ => Nat.le_of_ble_eq_true rfl) (fun s1 => eb_stuck))
theorem ok__law_span_made (T : Txt fa fn K mg) : OkF P w K mg base "_law_span_made" ["named", "head", "tail"] 7 (spT K XT F_law_span_made) := by
  obtain ⟨fd, F⟩ := T.c.def_ 22 rfl
  exact ⟨fd, fn__law_span_made T F, FunD.bindsN F fun _ _ _ _ _ _ us hl => match us, hl with | [_, _, _], _ => rfl, F.kp, T.glob 52 rfl⟩
end
abbrev st__law_span_due : Stmt := top 44
abbrev NN__law_span_due : List Str := ["head", "tail"]
theorem sc__law_span_due : FnScope NN__law_span_due ["head", "tail"] (defScope st__law_span_due) := ⟨rfl, rfl, rfl, by decide +kernel, rfl, by decide +kernel, by decide +kernel⟩
abbrev F_law_span_due : FS (Int × Int) ((List Nat) × (List Nat)) where
  ins := fun x => [.val (tv rInt x.1), .val (tv rInt x.2)]
  cells := fun x => []
  m := fun x => m_law_span_due x.1 x.2
  out := fun x w => .rt (tv (rP2 rTxt rTxt) w) []
section
variable {P : Program} {w : World} {K : PySem.W.Frag} {mg : Str → Option Value} {base : Heap}
set_option maxHeartbeats 4000000 in
theorem fn__law_span_due {fd : FuncData} (T : Txt fa fn K mg) (F : FunD K d23.name d23.qual d23.params d23.body d23.scope (d23.dvs K) (d23.kws K) (He.fAd K d23.at_) fd) : FnOk P w K mg base CX0 2 (He.ga K "_law_span_due") fd ["head", "tail"] (spT K XT F_law_span_due) := by
  have sc := sc__law_span_due
  obtain ⟨fd0, G0, b0, k0, g0⟩ := ok__law_normal (P := P) (w := w) (base := base) T
  refine F.ok sc (sp_len fun _ => rfl) (fun cdv A outer s H vs Q E hr h => ?_)
  refine ⟨_, PSs.nox (pss_cons (ps_if (pt_cmpR op_lt (pv 1) (pv 0) (nomark _)) (pss_cons (ps_ret (pe_tup (pa_cons pe_str (pa_cons pe_str pa_nil)))) pss_nil) pss_nil) (pss_cons (ps_ret (pe_call G0 (hr.mono (by decide)) rfl g0 k0 b0 .nil pass0 (pa_cons (pe_op op_add_str (pe_op op_mul_txt pe_str (pv 0)) (pe_op op_mul_txt pe_str (pe_op op_add (pe_op op_sub (pv 1) (pv 0)) pe_int))) (pa_cons pe_str pa_nil)))) pss_nil)), ?_⟩
  refine sp_body0 h (fun _ _ => trivial) fun x => ?_
  obtain ⟨head, tail⟩ := x
  show EvB K ⟨XT, fun _ _ _ _ => False⟩ 0 _ [some (.val (tv rInt head)), some (.val (tv rInt tail))] [] (fun (w : (List Nat) × (List Nat)) => (.rt (tv (rP2 rTxt rTxt) w) [] : OS)) (m_law_span_due head tail)
  unfold m_law_span_due
  exact (eb_ifr (et_test (ev_op (ev_var rfl) (ev_var rfl) rv_lt)) (fun _ => (eb_ret (ev_mk2 (ea_cons (ev_txt (l := []) (by decide +kernel)) (ea_cons (ev_txt (l := [48]) (by decide +kernel)) ea_nil))) rfl rfl))
(fun _ => eb_bind fun r1 h1 => eb_bind fun r2 h2 => eb_bind fun r3 h3 => eb_bind fun r4 h4 => (eb_ret (ev_call (F := F_law_normal) (x := (((repL [48] head) ++ (repL [49] ((tail - head) + (1 : Int)))), [48])) (ea_cons (ev_op (ev_op (ev_txt (l := [48]) (by decide +kernel)) (ev_var rfl) (rv_repX h1)) (ev_op (ev_txt (l := [49]) (by decide +kernel)) (ev_op (ev_op (ev_var rfl) (ev_var rfl) rv_sub) ev_int rv_add) (rv_repX h2)) (rv_catX h3)) (ea_cons (ev_txt (l := [48]) (by decide +kernel)) ea_nil)) h4 (ss := [.val (tv rTxt ((repL [48] head) ++ (repL [49] ((tail - head) + (1 : Int))))), .val (tv rTxt [48])]) (ks := []) ) rfl rfl)))
theorem ok__law_span_due (T : Txt fa fn K mg) : OkF P w K mg base "_law_span_due" ["head", "tail"] 2 (spT K XT F_law_span_due) := by
  obtain ⟨fd, F⟩ := T.c.def_ 23 rfl
  exact ⟨fd, fn__law_span_due T F, FunD.bindsN F fun _ _ _ _ _ _ us hl => match us, hl with | [_, _], _ => rfl, F.kp, T.glob 53 rfl⟩
end
abbrev st__law_length : Stmt := top 45
abbrev NN__law_length : List Str := ["box", "way"]
theorem sc__law_length : FnScope NN__law_length ["box"] (defScope st__law_length) := ⟨rfl, rfl, rfl, by decide +kernel, rfl, by decide +kernel, by decide +kernel⟩
abbrev F_law_length : FS (H_law_box) (Int × H_law_box) where
  ins := fun x => [.cell 0]
  cells := fun x => [some (mv_H_law_box x)]
  m := fun x => m_law_length x
  out := fun x w => .rt (tv rInt w.1) [some (mv_H_law_box w.2)]
section
variable {P : Program} {w : World} {K : PySem.W.Frag} {mg : Str → Option Value} {base : Heap}
set_option maxHeartbeats 4000000 in
theorem fn__law_length {fd : FuncData} (T : Txt fa fn K mg) (F : FunD K d24.name d24.qual d24.params d24.body d24.scope (d24.dvs K) (d24.kws K) (He.fAd K d24.at_) fd) : FnOk P w K mg base CX0 2 (He.ga K "_law_length") fd ["box"] (spT K XT F_law_length) := by
  have sc := sc__law_length
  obtain ⟨fd0, G0, b0, k0, g0⟩ := ok__law_take (P := P) (w := w) (base := base) T
  refine F.ok sc (sp_len fun _ => rfl) (fun cdv A outer s H vs Q E hr h => ?_)
  refine ⟨_, PSs.nox (pss_cons (ps_set (i := 1) sc.nd rfl (Or.inl rfl) (pe_call G0 (hr.mono (by decide)) rfl g0 k0 b0 .nil pass0 (pa_cons (pv 0) (pa_cons pe_int pa_nil)))) (pss_cons (ps_if (pt_cmpR op_eq (pv 1) pe_int (nomark _)) (pss_cons (ps_ret (pe_op op_add pe_int (pe_call G0 (hr.mono (by decide)) rfl g0 k0 b0 .nil pass0 (pa_cons (pv 0) (pa_cons pe_int pa_nil))))) pss_nil) pss_nil) (pss_cons (ps_if (pt_cmpR op_eq (pv 1) pe_int (nomark _)) (pss_cons (ps_ret (pe_op op_add pe_int (pe_call G0 (hr.mono (by decide)) rfl g0 k0 b0 .nil pass0 (pa_cons (pv 0) (pa_cons pe_int pa_nil))))) pss_nil) pss_nil) (pss_cons (ps_ret (pe_op op_add pe_int (pe_call G0 (hr.mono (by decide)) rfl g0 k0 b0 .nil pass0 (pa_cons (pv 0) (pa_cons pe_int pa_nil))))) pss_nil)))), ?_⟩
  refine sp_body0 h (fun _ _ => trivial) fun box => ?_
  show EvB K ⟨XT, fun _ _ _ _ => False⟩ 1 _ [some (.cell 0), none] [some (mv_H_law_box box)] (fun (w : Int × H_law_box) => (.rt (tv rInt w.1) [some (mv_H_law_box w.2)] : OS)) (m_law_length box)
  unfold m_law_length
  exact (eb_bind fun r1 h1 => (eb_asg (ev_call (F := F_law_take) (x := (box, (16 : Int))) (ea_cons (ev_var rfl) (ea_cons ev_int ea_nil)) h1 (ss := [.cell 0, .val (tv rInt (16 : Int))]) (ks := [0]) )
(eb_ifr (et_test (ev_op (ev_var rfl) ev_int rv_eqI)) (fun _ => eb_bind fun r2 h2 => (eb_ret (ev_op ev_int (ev_call (F := F_law_take) (x := (r1.2, (14 : Int))) (ea_cons (ev_var rfl) (ea_cons ev_int ea_nil)) h2 (ss := [.cell 0, .val (tv rInt (14 : Int))]) (ks := [0]) ) rv_add) rfl rfl))
(fun _ => (eb_ifr (et_test (ev_op (ev_var rfl) ev_int rv_eqI)) (fun _ => eb_bind fun r3 h3 => (eb_ret (ev_op ev_int (ev_call (F := F_law_take) (x := (r1.2, (10000 : Int))) (ea_cons (ev_var rfl) (ea_cons ev_int ea_nil)) h3 (ss := [.cell 0, .val (tv rInt (10000 : Int))]) (ks := [0]) ) rv_add) rfl rfl))
(fun _ => eb_bind fun r4 h4 => (eb_ret (ev_op ev_int (ev_call (F := F_law_take) (x := (r1.2, (14 : Int))) (ea_cons (ev_var rfl) (ea_cons ev_int ea_nil)) h4 (ss := [.cell 0, .val (tv rInt (14 : Int))]) (ks := [0]) ) rv_add) rfl rfl)))))))
theorem ok__law_length (T : Txt fa fn K mg) : OkF P w K mg base "_law_length" ["box"] 2 (spT K XT F_law_length) := by
  obtain ⟨fd, F⟩ := T.c.def_ 24 rfl
  exact ⟨fd, fn__law_length T F, FunD.bindsN F fun _ _ _ _ _ _ us hl => match us, hl with | [_], _ => rfl, F.kp, T.glob 54 rfl⟩
end
abbrev st__law_begin : Stmt := top 46
abbrev NN__law_begin : List Str := ["box", "way"]
theorem sc__law_begin : FnScope NN__law_begin ["box"] (defScope st__law_begin) := ⟨rfl, rfl, rfl, by decide +kernel, rfl, by decide +kernel, by decide +kernel⟩
abbrev F_law_begin : FS (H_law_box) (Int × H_law_box) where
  ins := fun x => [.cell 0]
  cells := fun x => [some (mv_H_law_box x)]
  m := fun x => m_law_begin x
  out := fun x w => .rt (tv rInt w.1) [some (mv_H_law_box w.2)]
section
variable {P : Program} {w : World} {K : PySem.W.Frag} {mg : Str → Option Value} {base : Heap}
set_option maxHeartbeats 4000000 in
theorem fn__law_begin {fd : FuncData} (T : Txt fa fn K mg) (F : FunD K d25.name d25.qual d25.params d25.body d25.scope (d25.dvs K) (d25.kws K) (He.fAd K d25.at_) fd) : FnOk P w K mg base CX0 2 (He.ga K "_law_begin") fd ["box"] (spT K XT F_law_begin) := by
  have sc := sc__law_begin
  obtain ⟨fd0, G0, b0, k0, g0⟩ := ok__law_take (P := P) (w := w) (base := base) T
  refine F.ok sc (sp_len fun _ => rfl) (fun cdv A outer s H vs Q E hr h => ?_)
  refine ⟨_, PSs.nox (pss_cons (ps_set (i := 1) sc.nd rfl (Or.inl rfl) (pe_call G0 (hr.mono (by decide)) rfl g0 k0 b0 .nil pass0 (pa_cons (pv 0) (pa_cons pe_int pa_nil)))) (pss_cons (ps_if (pt_cmpR op_eq (pv 1) pe_int (nomark _)) (pss_cons (ps_ret (pe_op op_sub pe_int (pe_call G0 (hr.mono (by decide)) rfl g0 k0 b0 .nil pass0 (pa_cons (pv 0) (pa_cons pe_int pa_nil))))) pss_nil) pss_nil) (pss_cons (ps_if (pt_cmpR op_eq (pv 1) pe_int (nomark _)) (pss_cons (ps_ret (pe_op op_add pe_int (pe_call G0 (hr.mono (by decide)) rfl g0 k0 b0 .nil pass0 (pa_cons (pv 0) (pa_cons pe_int pa_nil))))) pss_nil) pss_nil) (pss_cons (ps_ret (pe_call G0 (hr.mono (by decide)) rfl g0 k0 b0 .nil pass0 (pa_cons (pv 0) (pa_cons pe_int pa_nil)))) pss_nil)))), ?_⟩
  refine sp_body0 h (fun _ _ => trivial) fun box => ?_
  show EvB K ⟨XT, fun _ _ _ _ => False⟩ 1 _ [some (.cell 0), none] [some (mv_H_law_box box)] (fun (w : Int × H_law_box) => (.rt (tv rInt w.1) [some (mv_H_law_box w.2)] : OS)) (m_law_begin box)
  unfold m_law_begin
  exact (eb_bind fun r1 h1 => (eb_asg (ev_call (F := F_law_take) (x := (box, (8 : Int))) (ea_cons (ev_var rfl) (ea_cons ev_int ea_nil)) h1 (ss := [.cell 0, .val (tv rInt (8 : Int))]) (ks := [0]) )
(eb_ifr (et_test (ev_op (ev_var rfl) ev_int rv_eqI)) (fun _ => eb_bind fun r2 h2 => (eb_ret (ev_op ev_int (ev_call (F := F_law_take) (x := (r1.2, (3 : Int))) (ea_cons (ev_var rfl) (ea_cons ev_int ea_nil)) h2 (ss := [.cell 0, .val (tv rInt (3 : Int))]) (ks := [0]) ) rv_sub) rfl rfl))
(fun _ => (eb_ifr (et_test (ev_op (ev_var rfl) ev_int rv_eqI)) (fun _ => eb_bind fun r3 h3 => (eb_ret (ev_op ev_int (ev_call (F := F_law_take) (x := (r1.2, (30 : Int))) (ea_cons (ev_var rfl) (ea_cons ev_int ea_nil)) h3 (ss := [.cell 0, .val (tv rInt (30 : Int))]) (ks := [0]) ) rv_add) rfl rfl))
(fun _ => eb_bind fun r4 h4 => (eb_ret (ev_call (F := F_law_take) (x := (r1.2, (30 : Int))) (ea_cons (ev_var rfl) (ea_cons ev_int ea_nil)) h4 (ss := [.cell 0, .val (tv rInt (30 : Int))]) (ks := [0]) ) rfl rfl)))))))
theorem ok__law_begin (T : Txt fa fn K mg) : OkF P w K mg base "_law_begin" ["box"] 2 (spT K XT F_law_begin) := by
  obtain ⟨fd, F⟩ := T.c.def_ 25 rfl
  exact ⟨fd, fn__law_begin T F, FunD.bindsN F fun _ _ _ _ _ _ us hl => match us, hl with | [_], _ => rfl, F.kp, T.glob 55 rfl⟩
end
abbrev st_DaySet__every : Stmt := topM 12 4
abbrev NN_DaySet__every : List Str := ["length", "at", "since", "marks", "index"]
theorem sc_DaySet__every : FnScope NN_DaySet__every ["length", "at", "since"] (defScope st_DaySet__every) := ⟨rfl, rfl, rfl, by decide +kernel, rfl, by decide +kernel, by decide +kernel⟩
abbrev F_DaySet__every : FS (Int × Int × Int) (Rz Unit C_DaySet) where
  ins := fun x => [.val (tv rInt x.1), .val (tv rInt x.2.1), .val (tv rInt x.2.2)]
  cells := fun x => []
  m := fun x => m_DaySet__every x.1 x.2.1 x.2.2
  out := fun x w => (match w with
    | .ret w => .rf (mv_DaySet w) []
    | .exc y c => .ex y none [])
section
variable {P : Program} {w : World} {K : PySem.W.Frag} {mg : Str → Option Value} {base : Heap}
set_option maxHeartbeats 4000000 in
theorem fn_DaySet__every {fd : FuncData} (T : Txt fa fn K mg) (F : FunD K e2.name e2.qual e2.params e2.body e2.scope (e2.dvs K) (e2.kws K) (sOf K e2) fd) : FnOk P w K mg base (L2N.CX P w) 6 (sAd K (He.ga K "DaySet") "every") fd ["length", "at", "since"] (spT K XT F_DaySet__every) := by
  have sc := sc_DaySet__every
  obtain ⟨fd0, G0, b0⟩ := ok_DaySet____init__ (P := P) (w := w) (base := base) T
  refine F.ok sc (sp_len fun _ => rfl) (fun cdv A outer s H vs Q E hr h => ?_)
  have tk : L2N.Takes (cxOf (L2N.CX P w) P w K mg base NN_DaySet__every e2.qual e2.scope (sOf K e2) cdv A outer s H E) (fun cls d _ H' => E cls d H') := L2N.takes_of rfl rfl rfl rfl
  refine ⟨_, (pss_cons (ps_setLc (i := 3) (own := [("index", 4)]) (g := _) (tt := _) rfl sc.nd rfl rfl (sw_true rfl rfl rfl (by decide +kernel)) (pi_range1 rfl (T.free 4) (pa_cons (pv 0) pa_nil)) (blkOk_by (N := NN_DaySet__every) (sc := defScope st_DaySet__every) (by decide +kernel)) (fun _ _ _ _ _ => (pg_name (i := 4) sc.nd rfl (Or.inl rfl))) (fun _ _ _ _ _ => pts_nil) (fun _ _ _ _ _ => (pe_ifExp (pt_cmpR op_eq (pe_op op_mod (pe_op op_add (pv 2) (pv 4)) (pv 0)) (pv 1) (nomark _)) pe_str pe_str))) (pss_cons (ps_ret (pe_makeS (T.mkr 28 rfl) G0 (hr.mono (by decide)) rfl (T.glob 29 rfl) b0 (fun σ => L2N.passAt tk σ) (pa_cons (pe_op op_mul_txt pe_str (pv 2)) (pa_cons (kJoin (K := K) pe_str (pv 3)) pa_nil)))) pss_nil)), ?_⟩
  refine sp_body h fun x => ?_
  obtain ⟨length, at_, since⟩ := x
  show EvB K _ 0 _ [some (.val (tv rInt length)), some (.val (tv rInt at_)), some (.val (tv rInt since)), none, none] [] (fun (w : Rz Unit C_DaySet) => ((match w with
    | .ret w => .rf (mv_DaySet w) []
    | .exc y c => .ex y none []) : OS)) (m_DaySet__every length at_ since)
  unfold m_DaySet__every
  exact (eb_bind fun r1 h1 => eb_bind fun r2 h2 => eb_bind fun r5 h5 => (eb_asg (ev_lstR (ef_mapR (R' := rTxt) (ei_rng1 (ea_cons (ev_var rfl) ea_nil) (rngP_ok h1).2) (fun _ => hz_size h2) trivial (fun _ => ego_name) (fun x3 y7 e6 => bo e6 fun r4 h4 e6 => oeV e6 (ev_ite (et_test (ev_op (ev_op (ev_op (ev_var rfl) (ev_var rfl) rv_add) (ev_var rfl) (rv_modP h4)) (ev_var rfl) rv_eqI)) (fun _ => (ev_txt (l := [49]) (by decide +kernel))) (fun _ => (ev_txt (l := [48]) (by decide +kernel))))) h5))
(eb_bind fun r8 h8 => eb_bind fun r9 h9 => eb_rz (fun r10 h10 => (eb_retF (ef_make (F := F_DaySet____init__) (cn := "DaySet") (x := ((), repL [48] since, (joinX ([] : List Nat) r5))) (ea_cons (ev_op (ev_txt (l := [48]) (by decide +kernel)) (ev_var rfl) (rv_repX h8)) (ea_cons (ev_joinX (ev_txt (l := []) (by decide +kernel)) (ev_var rfl) (is_seq (k := .l) (R := rTxt) (xs := r5)) h9) ea_nil)) h10 (ss := [.val (tv rTxt (repL [48] since)), .val (tv rTxt (joinX ([] : List Nat) r5))]) (ks := []) (ps := []) ) rfl rfl (Nat.le_of_ble_eq_true rfl))) (fun x10_ c10 h10 => (eb_ex (xs_ret (ex_make (F := F_DaySet____init__) (cn := "DaySet") (x := ((), repL [48] since, (joinX ([] : List Nat) r5))) (ea_cons (ev_op (ev_txt (l := [48]) (by decide +kernel)) (ev_var rfl) (rv_repX h8)) (ea_cons (ev_joinX (ev_txt (l := []) (by decide +kernel)) (ev_var rfl) (is_seq (k := .l) (R := rTxt) (xs := r5)) h9) ea_nil)) h10 (ss := [.val (tv rTxt (repL [48] since)), .val (tv rTxt (joinX ([] : List Nat) r5))]) (ks := []) (ps := []) )) rfl rfl)))))
end
abbrev st__law_every_made : Stmt := top 47
abbrev NN__law_every_made : List Str := ["form", "length", "place", "begin", "problem"]
theorem sc__law_every_made : FnScope NN__law_every_made ["form", "length", "place", "begin"] (defScope st__law_every_made) := ⟨rfl, rfl, rfl, by decide +kernel, rfl, by decide +kernel, by decide +kernel⟩
abbrev F_law_every_made : FS (Int × Int × Int × Int) ((List Nat) × (C_DaySet ⊕ Int)) where
  ins := fun x => [.val (tv rInt x.1), .val (tv rInt x.2.1), .val (tv rInt x.2.2.1), .val (tv rInt x.2.2.2)]
  cells := fun x => []
  m := fun x => m_law_every_made x.1 x.2.1 x.2.2.1 x.2.2.2
  out := fun x w => .rt (tv (rP2 rTxt (rSum rI_DaySet rInt)) w) []
section
variable {P : Program} {w : World} {K : PySem.W.Frag} {mg : Str → Option Value} {base : Heap}
set_option maxHeartbeats 4000000 in
theorem fn__law_every_made {fd : FuncData} (T : Txt fa fn K mg) (F : FunD K d26.name d26.qual d26.params d26.body d26.scope (d26.dvs K) (d26.kws K) (He.fAd K d26.at_) fd) : FnOk P w K mg base CX0 7 (He.ga K "_law_every_made") fd ["form", "length", "place", "begin"] (spT K XT F_law_every_made) := by
  have sc := sc__law_every_made
  obtain ⟨fd0, F0⟩ := T.c.sdef 2 rfl
  have G0 := (fn_DaySet__every (P := P) (w := w) (base := base) T F0)
  obtain ⟨mvkb0, kb0⟩ := FunD.kbinds0 (ps := ["length", "at", "since"]) (kws := [("at", V.int (0)), ("since", V.int (0))]) F0 1 [] [("at", V.int (0)), ("since", V.int (0))] (fun us mz ws => us ++ (ws ++ mz)) (fun z => nomatch z) (fun q hq => match q, hq with | _, .head _ => .head _ | _, .tail _ (.head _) => .tail _ (.head _)) (fun r1 rk r2 => Paired.app r1 (Paired.app r2 rk)) fun D doc pm an cdv ct us mv ws l1 l2 l3 => match us, mv, ws, l1, l2, l3 with | [_], [_, _], [], _, _, _ => ⟨_, _, _, _, _, _, rfl, rfl, ⟨_, _, _, _, _, _, rfl, rfl, rfl⟩⟩
  obtain ⟨mvkb1, kb1⟩ := FunD.kbinds0 (ps := ["length", "at", "since"]) (kws := [("at", V.int (0)), ("since", V.int (0))]) F0 1 ["at"] [("since", V.int (0))] (fun us mz ws => us ++ (ws ++ mz)) (fun z => nomatch z) (fun q hq => match q, hq with | _, .head _ => .tail _ (.head _)) (fun r1 rk r2 => Paired.app r1 (Paired.app r2 rk)) fun D doc pm an cdv ct us mv ws l1 l2 l3 => match us, mv, ws, l1, l2, l3 with | [_], [_], [_], _, _, _ => ⟨_, _, _, _, _, _, rfl, rfl, rfl⟩
  obtain ⟨mvkb2, kb2⟩ := FunD.kbinds0 (ps := ["length", "at", "since"]) (kws := [("at", V.int (0)), ("since", V.int (0))]) F0 1 ["since"] [("at", V.int (0))] (fun us mz ws => us ++ (mz ++ ws)) (fun z => nomatch z) (fun q hq => match q, hq with | _, .head _ => .head _) (fun r1 rk r2 => Paired.app r1 (Paired.app rk r2)) fun D doc pm an cdv ct us mv ws l1 l2 l3 => match us, mv, ws, l1, l2, l3 with | [_], [_], [_], _, _, _ => ⟨_, _, _, _, _, _, rfl, rfl, rfl⟩
  obtain ⟨mvkb3, kb3⟩ := FunD.kbinds0 (ps := ["length", "at", "since"]) (kws := [("at", V.int (0)), ("since", V.int (0))]) F0 1 ["at", "since"] [] (fun us mz ws => us ++ (ws ++ mz)) (fun z => nomatch z) (fun q hq => nomatch hq) (fun r1 rk r2 => Paired.app r1 (Paired.app r2 rk)) fun D doc pm an cdv ct us mv ws l1 l2 l3 => match us, mv, ws, l1, l2, l3 with | [_], [], [_, _], _, _, _ => rfl
  refine F.ok sc (sp_len fun _ => rfl) (fun cdv A outer s H vs Q E hr h => ?_)
  refine ⟨_, PSs.nox (pss_cons (ps_tryH rfl rfl takes0 (fun W' pn xe tk po => (pss_cons (ps_if (pt_cmpR op_eq (pv 0) pe_int (nomark _)) (pss_cons (ps_ret (pe_tup (pa_cons pe_str (pa_cons (pe_statK (pl := _) ⟨(baseS_ok (T.own 30 rfl)).1, (baseS_ok (T.own 30 rfl)).2, statB_ok (T.own 56 rfl), (T.own 57 rfl)⟩ G0 (hr.mono (by decide)) rfl (T.glob 29 rfl) kb0 (fun σ => L2N.passAt tk σ) (pa_cons (pv 1) pa_nil) pk_nil) pa_nil)))) pss_nil) pss_nil) (pss_cons (ps_if (pt_cmpR op_eq (pv 0) pe_int (nomark _)) (pss_cons (ps_ret (pe_tup (pa_cons pe_str (pa_cons (pe_statK (pl := _) ⟨(baseS_ok (T.own 30 rfl)).1, (baseS_ok (T.own 30 rfl)).2, statB_ok (T.own 56 rfl), (T.own 57 rfl)⟩ G0 (hr.mono (by decide)) rfl (T.glob 29 rfl) kb1 (fun σ => L2N.passAt tk σ) (pa_cons (pv 1) pa_nil) (pk_cons (pv 2) pk_nil)) pa_nil)))) pss_nil) pss_nil) (pss_cons (ps_if (pt_cmpR op_eq (pv 0) pe_int (nomark _)) (pss_cons (ps_ret (pe_tup (pa_cons pe_str (pa_cons (pe_statK (pl := _) ⟨(baseS_ok (T.own 30 rfl)).1, (baseS_ok (T.own 30 rfl)).2, statB_ok (T.own 56 rfl), (T.own 57 rfl)⟩ G0 (hr.mono (by decide)) rfl (T.glob 29 rfl) kb2 (fun σ => L2N.passAt tk σ) (pa_cons (pv 1) pa_nil) (pk_cons (pv 3) pk_nil)) pa_nil)))) pss_nil) pss_nil) (pss_cons (ps_ret (pe_tup (pa_cons pe_str (pa_cons (pe_statK (pl := _) ⟨(baseS_ok (T.own 30 rfl)).1, (baseS_ok (T.own 30 rfl)).2, statB_ok (T.own 56 rfl), (T.own 57 rfl)⟩ G0 (hr.mono (by decide)) rfl (T.glob 29 rfl) kb3 (fun σ => L2N.passAt tk σ) (pa_cons (pv 1) pa_nil) (pk_cons (pv 2) (pk_cons (pv 3) pk_nil))) pa_nil)))) pss_nil))))) (.named ⟨rfl, by decide, .inl (T.glob 22 rfl)⟩ sc.nd (i := 4) rfl rfl (fun a_ oe cls_ d_ pn hz hf => (pss_cons (ps_ret (pe_tup (pa_cons pe_str (pa_cons (pe_xf (xsB_ok (T.own 33 rfl)).xf (T.noat 34 rfl) (hz.zc) hf (pv 4)) pa_nil)))) pss_nil)) .nil)) pss_nil), ?_⟩
  refine sp_body0 h (fun _ _ => trivial) fun x => ?_
  obtain ⟨form, length, place, begin⟩ := x
  show EvB K ⟨XT, fun _ _ _ _ => False⟩ 0 _ [some (.val (tv rInt form)), some (.val (tv rInt length)), some (.val (tv rInt place)), some (.val (tv rInt begin)), none] [] (fun (w : (List Nat) × (C_DaySet ⊕ Int)) => (.rt (tv (rP2 rTxt (rSum rI_DaySet rInt)) w) [] : OS)) (m_law_every_made form length place begin)
  unfold m_law_every_made
  exact (eb_try (κ' := (fun (w : (List Nat) × (C_DaySet ⊕ Int)) => OS.rt (tv (rP2 rTxt (rSum rI_DaySet rInt)) w) [])) (g := fun (s1 : Unit) => [none, none, none, none, none]) (mu := fun (s1 : Unit) => []) (gx := fun (c2 : Unit) => [some (.val (tv rInt form)), some (.val (tv rInt length)), some (.val (tv rInt place)), some (.val (tv rInt begin)), none]) (mx := fun (c2 : Unit) => []) (fun W' => (eb_ifr (et_test (ev_op (ev_var rfl) ev_int rv_eqI)) (fun _ => eb_rz (fun r3 h3 => (eb_ret (ev_mk2 (ea_cons (ev_txt (l := [115, 101, 116]) (by decide +kernel)) (ea_cons (ev_inl (ev_frz (ef_callS (F := F_DaySet__every) (x := (length, (0 : Int), (0 : Int))) (ea_kw (ea_cons (ev_var rfl) ea_nil) ea_nil (fun S ls vs zs a b => Paired.app a (Paired.app b (show AllS K S ls [V.int (0 : Int), V.int (0 : Int)] [vI (0 : Int), vI (0 : Int)] from .cons rfl (.cons rfl (.nil)))))) h3 (ss := [.val (tv rInt length), .val (tv rInt (0 : Int)), .val (tv rInt (0 : Int))]) (ks := []) (ps := []) ) frz_DaySet)) ea_nil))) rfl rfl)) (fun x3_ c3 h3 => (eb_ex (xs_ret (ex_tup (xa_cons2 (ev_txt (l := [115, 101, 116]) (by decide +kernel)) (xa_cons1 (ex_callS (F := F_DaySet__every) (x := (length, (0 : Int), (0 : Int))) (ea_kw (ea_cons (ev_var rfl) ea_nil) ea_nil (fun S ls vs zs a b => Paired.app a (Paired.app b (show AllS K S ls [V.int (0 : Int), V.int (0 : Int)] [vI (0 : Int), vI (0 : Int)] from .cons rfl (.cons rfl (.nil)))))) h3 (ss := [.val (tv rInt length), .val (tv rInt (0 : Int)), .val (tv rInt (0 : Int))]) (ks := []) (ps := []) ))))) rfl rfl (gsO (.keep (.keep (.keep (.keep (.keep .nil)))))))))
(fun _ => (eb_ifr (et_test (ev_op (ev_var rfl) ev_int rv_eqI)) (fun _ => eb_rz (fun r4 h4 => (eb_ret (ev_mk2 (ea_cons (ev_txt (l := [115, 101, 116]) (by decide +kernel)) (ea_cons (ev_inl (ev_frz (ef_callS (F := F_DaySet__every) (x := (length, place, (0 : Int))) (ea_kw (ea_cons (ev_var rfl) ea_nil) (ea_cons (ev_var rfl) ea_nil) (fun S ls vs zs a b => Paired.app a (Paired.app b (show AllS K S ls [V.int (0 : Int)] [vI (0 : Int)] from .cons rfl (.nil))))) h4 (ss := [.val (tv rInt length), .val (tv rInt place), .val (tv rInt (0 : Int))]) (ks := []) (ps := []) ) frz_DaySet)) ea_nil))) rfl rfl)) (fun x4_ c4 h4 => (eb_ex (xs_ret (ex_tup (xa_cons2 (ev_txt (l := [115, 101, 116]) (by decide +kernel)) (xa_cons1 (ex_callS (F := F_DaySet__every) (x := (length, place, (0 : Int))) (ea_kw (ea_cons (ev_var rfl) ea_nil) (ea_cons (ev_var rfl) ea_nil) (fun S ls vs zs a b => Paired.app a (Paired.app b (show AllS K S ls [V.int (0 : Int)] [vI (0 : Int)] from .cons rfl (.nil))))) h4 (ss := [.val (tv rInt length), .val (tv rInt place), .val (tv rInt (0 : Int))]) (ks := []) (ps := []) ))))) rfl rfl (gsO (.keep (.keep (.keep (.keep (.keep .nil)))))))))
(fun _ => (eb_ifr (et_test (ev_op (ev_var rfl) ev_int rv_eqI)) (fun _ => eb_rz (fun r5 h5 => (eb_ret (ev_mk2 (ea_cons (ev_txt (l := [115, 101, 116]) (by decide +kernel)) (ea_cons (ev_inl (ev_frz (ef_callS (F := F_DaySet__every) (x := (length, (0 : Int), begin)) (ea_kw (ea_cons (ev_var rfl) ea_nil) (ea_cons (ev_var rfl) ea_nil) (fun S ls vs zs a b => Paired.app a (Paired.app (show AllS K S ls [V.int (0 : Int)] [vI (0 : Int)] from .cons rfl (.nil)) b))) h5 (ss := [.val (tv rInt length), .val (tv rInt (0 : Int)), .val (tv rInt begin)]) (ks := []) (ps := []) ) frz_DaySet)) ea_nil))) rfl rfl)) (fun x5_ c5 h5 => (eb_ex (xs_ret (ex_tup (xa_cons2 (ev_txt (l := [115, 101, 116]) (by decide +kernel)) (xa_cons1 (ex_callS (F := F_DaySet__every) (x := (length, (0 : Int), begin)) (ea_kw (ea_cons (ev_var rfl) ea_nil) (ea_cons (ev_var rfl) ea_nil) (fun S ls vs zs a b => Paired.app a (Paired.app (show AllS K S ls [V.int (0 : Int)] [vI (0 : Int)] from .cons rfl (.nil)) b))) h5 (ss := [.val (tv rInt length), .val (tv rInt (0 : Int)), .val (tv rInt begin)]) (ks := []) (ps := []) ))))) rfl rfl (gsO (.keep (.keep (.keep (.keep (.keep .nil)))))))))
(fun _ => eb_rz (fun r6 h6 => (eb_ret (ev_mk2 (ea_cons (ev_txt (l := [115, 101, 116]) (by decide +kernel)) (ea_cons (ev_inl (ev_frz (ef_callS (F := F_DaySet__every) (x := (length, place, begin)) (ea_kw (ea_cons (ev_var rfl) ea_nil) (ea_cons (ev_var rfl) (ea_cons (ev_var rfl) ea_nil)) (fun S ls vs zs a b => Paired.app a b)) h6 (ss := [.val (tv rInt length), .val (tv rInt place), .val (tv rInt begin)]) (ks := []) (ps := []) ) frz_DaySet)) ea_nil))) rfl rfl)) (fun x6_ c6 h6 => (eb_ex (xs_ret (ex_tup (xa_cons2 (ev_txt (l := [115, 101, 116]) (by decide +kernel)) (xa_cons1 (ex_callS (F := F_DaySet__every) (x := (length, place, begin)) (ea_kw (ea_cons (ev_var rfl) ea_nil) (ea_cons (ev_var rfl) (ea_cons (ev_var rfl) ea_nil)) (fun S ls vs zs a b => Paired.app a b)) h6 (ss := [.val (tv rInt length), .val (tv rInt place), .val (tv rInt begin)]) (ks := []) (ps := []) ))))) rfl rfl (gsO (.keep (.keep (.keep (.keep (.keep .nil))))))))))))))) (EvH.cons (i := (some 4)) (ts := fun a_ cls_ d_ => _) (fun n => n == 1) (fun n D e => match n, e with | 0, e => by cases e; exact T.exm 35 rfl | 1, e => by cases e; exact T.exm 36 rfl | (_ + 2), e => by cases e) (fun x7_ c9 a_ cls_ d_ h8 => eb_bind fun r10 h10 => (eb_ret (ev_mk2 (ea_cons (ev_txt (l := [108, 111, 110, 103]) (by decide +kernel)) (ea_cons (ev_inr (ev_xfI (k := 1) (i := 0) (D := ⟨"TooLong", ["limit"]⟩) (ev_var rfl) (beq_iff_eq.mp h8) rfl h10 (fun _ _ hl e => args1 hl e))) ea_nil))) rfl rfl)) (fun _ j e => by cases e; rfl) (fun _ => trivial) (EvH.nil fun x e w h => by cases h)) (fun _ => rfl) (fun _ => trivial) (fun _ => rfl) (fun _ => Nat.le_of_ble_eq_true rfl) (fun _ => Nat.le_of_ble_eq_true rfl) (fun _ => Nat.le_of_ble_eq_true rfl) (fun _ _ => Nat.le_of_ble_eq_true rfl) (fun s1 => eb_stuck))
theorem ok__law_every_made (T : Txt fa fn K mg) : OkF P w K mg base "_law_every_made" ["form", "length", "place", "begin"] 7 (spT K XT F_law_every_made) := by
  obtain ⟨fd, F⟩ := T.c.def_ 26 rfl
  exact ⟨fd, fn__law_every_made T F, FunD.bindsN F fun _ _ _ _ _ _ us hl => match us, hl with | [_, _, _, _], _ => rfl, F.kp, T.glob 58 rfl⟩
end
abbrev st__law_every_due : Stmt := top 48
abbrev NN__law_every_due : List Str := ["length", "place", "begin", "cycle", "when"]
theorem sc__law_every_due : FnScope NN__law_every_due ["length", "place", "begin"] (defScope st__law_every_due) := ⟨rfl, rfl, rfl, by decide +kernel, rfl, by decide +kernel, by decide +kernel⟩
abbrev F_law_every_due : FS (Int × Int × Int) ((List Nat) × (List Nat)) where
  ins := fun x => [.val (tv rInt x.1), .val (tv rInt x.2.1), .val (tv rInt x.2.2)]
  cells := fun x => []
  m := fun x => m_law_every_due x.1 x.2.1 x.2.2
  out := fun x w => .rt (tv (rP2 rTxt rTxt) w) []
section
variable {P : Program} {w : World} {K : PySem.W.Frag} {mg : Str → Option Value} {base : Heap}
set_option maxHeartbeats 4000000 in
theorem fn__law_every_due {fd : FuncData} (T : Txt fa fn K mg) (F : FunD K d27.name d27.qual d27.params d27.body d27.scope (d27.dvs K) (d27.kws K) (He.fAd K d27.at_) fd) : FnOk P w K mg base CX0 2 (He.ga K "_law_every_due") fd ["length", "place", "begin"] (spT K XT F_law_every_due) := by
  have sc := sc__law_every_due
  obtain ⟨fd0, G0, b0, k0, g0⟩ := ok__law_normal (P := P) (w := w) (base := base) T
  refine F.ok sc (sp_len fun _ => rfl) (fun cdv A outer s H vs Q E hr h => ?_)
  refine ⟨_, PSs.nox (pss_cons (ps_set (i := 3) sc.nd rfl (Or.inl rfl) (kJoin (K := K) pe_str (pe_lc (own := [("when", 4)]) (g := _) (tt := _) rfl sc.nd (pi_range2 rfl (T.free 4) (pa_cons (pv 2) (pa_cons (pe_op op_add (pv 2) (pv 0)) pa_nil))) (blkOk_by (N := NN__law_every_due) (sc := defScope st__law_every_due) (by decide +kernel)) (fun _ _ _ _ _ => (pg_name (i := 4) sc.nd rfl (Or.inl rfl))) (fun _ _ _ _ _ => pts_nil) (fun _ _ _ _ _ => (pe_ix ix_str pe_str (pe_callTy call_int1 (by rfl) (T.free 0) (by decide +kernel) (pa_cons (pe_cmpR op_eq (pe_op op_mod (pe_callTy call_int1 (by rfl) (T.free 0) (by decide +kernel) (pa_cons (pv 4) pa_nil)) (pv 0)) (pv 1) (nomark _)) pa_nil)) (fun _ _ => rfl)))))) (pss_cons (ps_ret (pe_call G0 (hr.mono (by decide)) rfl g0 k0 b0 .nil pass0 (pa_cons (pe_op op_mul_txt pe_str (pv 2)) (pa_cons (pv 3) pa_nil)))) pss_nil)), ?_⟩
  refine sp_body0 h (fun _ _ => trivial) fun x => ?_
  obtain ⟨length, place, begin⟩ := x
  show EvB K ⟨XT, fun _ _ _ _ => False⟩ 0 _ [some (.val (tv rInt length)), some (.val (tv rInt place)), some (.val (tv rInt begin)), none, none] [] (fun (w : (List Nat) × (List Nat)) => (.rt (tv (rP2 rTxt rTxt) w) [] : OS)) (m_law_every_due length place begin)
  unfold m_law_every_due
  exact (eb_bind fun r1 h1 => eb_bind fun r2 h2 => eb_bind fun r7 h7 => eb_bind fun r10 h10 => eb_bind fun cycle11 h11 => (eb_asg (oeV h11 (ev_joinX (ev_txt (l := []) (by decide +kernel)) (ev_lstR (ef_mapR (R' := rTxt) (ei_rng2 (ea_cons (ev_var rfl) (ea_cons (ev_op (ev_var rfl) (ev_var rfl) rv_add) ea_nil)) (rngP_ok h1).1 (rngP_ok h1).2) (fun _ => hz_size h2) trivial (fun _ => ego_name) (fun x3 y9 e8 => bo e8 fun r4 h4 e8 => bo e8 fun r5 h5 e8 => bo e8 fun r6 h6 e8 => oeV e8 (ev_op (ev_txt (l := [48, 49]) (by decide +kernel)) (ev_cb1 (ev_op (ev_op (ev_cb1 (ev_var rfl) rc_int) (ev_var rfl) (rv_modP h4)) (ev_var rfl) rv_eqI) rc_intB) (rv_ixX h5 h6))) h7)) (is_seq (k := .l) (R := rTxt) (xs := r7)) h10))
(eb_bind fun r12 h12 => eb_bind fun r13 h13 => (eb_ret (ev_call (F := F_law_normal) (x := (repL [48] begin, cycle11)) (ea_cons (ev_op (ev_txt (l := [48]) (by decide +kernel)) (ev_var rfl) (rv_repX h12)) (ea_cons (ev_var rfl) ea_nil)) h13 (ss := [.val (tv rTxt (repL [48] begin)), .val (tv rTxt cycle11)]) (ks := []) ) rfl rfl))))
theorem ok__law_every_due (T : Txt fa fn K mg) : OkF P w K mg base "_law_every_due" ["length", "place", "begin"] 2 (spT K XT F_law_every_due) := by
  obtain ⟨fd, F⟩ := T.c.def_ 27 rfl
  exact ⟨fd, fn__law_every_due T F, FunD.bindsN F fun _ _ _ _ _ _ us hl => match us, hl with | [_, _, _], _ => rfl, F.kp, T.glob 59 rfl⟩
end
abbrev st__law_made_hold : Stmt := top 50
abbrev NN__law_made_hold : List Str := ["box", "drawn", "head", "tail", "form", "length", "place", "begin", "outcome"]
theorem sc__law_made_hold : FnScope NN__law_made_hold ["box"] (defScope st__law_made_hold) := ⟨rfl, rfl, rfl, by decide +kernel, rfl, by decide +kernel, by decide +kernel⟩
abbrev F_law_made_hold : FS (H_law_box) (Bool × H_law_box) where
  ins := fun x => [.cell 0]
  cells := fun x => [some (mv_H_law_box x)]
  m := fun x => m_law_made_hold x
  out := fun x w => .rt (tv rBool w.1) [some (mv_H_law_box w.2)]
section
variable {P : Program} {w : World} {K : PySem.W.Frag} {mg : Str → Option Value} {base : Heap}
set_option maxHeartbeats 4000000 in
theorem fn__law_made_hold {fd : FuncData} (T : Txt fa fn K mg) (F : FunD K d28.name d28.qual d28.params d28.body d28.scope (d28.dvs K) (d28.kws K) (He.fAd K d28.at_) fd) : FnOk P w K mg base CX0 8 (He.ga K "_law_made_hold") fd ["box"] (spT K XT F_law_made_hold) := by
  have sc := sc__law_made_hold
  obtain ⟨fd0, G0, b0, k0, g0⟩ := ok__law_only_days (P := P) (w := w) (base := base) T
  obtain ⟨fd1, G1, b1, k1, g1⟩ := ok__law_only_made (P := P) (w := w) (base := base) T
  obtain ⟨fd2, G2, b2, k2, g2⟩ := ok__law_only_due (P := P) (w := w) (base := base) T
  obtain ⟨fd3, G3, b3, k3, g3⟩ := ok__law_as_due (P := P) (w := w) (base := base) T
  obtain ⟨fd4, G4, b4, k4, g4⟩ := ok__law_bound_day (P := P) (w := w) (base := base) T
  obtain ⟨fd5, G5, b5, k5, g5⟩ := ok__law_take (P := P) (w := w) (base := base) T
  obtain ⟨fd6, G6, b6, k6, g6⟩ := ok__law_span_made (P := P) (w := w) (base := base) T
  obtain ⟨fd7, G7, b7, k7, g7⟩ := ok__law_span_due (P := P) (w := w) (base := base) T
  obtain ⟨fd8, G8, b8, k8, g8⟩ := ok__law_length (P := P) (w := w) (base := base) T
  obtain ⟨fd9, G9, b9, k9, g9⟩ := ok__law_begin (P := P) (w := w) (base := base) T
  obtain ⟨fd10, G10, b10, k10, g10⟩ := ok__law_every_made (P := P) (w := w) (base := base) T
  obtain ⟨fd11, G11, b11, k11, g11⟩ := ok__law_every_due (P := P) (w := w) (base := base) T
  refine F.ok sc (sp_len fun _ => rfl) (fun cdv A outer s H vs Q E hr h => ?_)
  refine ⟨_, PSs.nox (pss_cons (ps_set (i := 1) sc.nd rfl (Or.inl rfl) (pe_call G0 (hr.mono (by decide)) rfl g0 k0 b0 .nil pass0 (pa_cons (pv 0) pa_nil))) (pss_cons (ps_if (pt_not (pt_val (pe_call G3 (hr.mono (by decide)) rfl g3 k3 b3 .nil pass0 (pa_cons (pe_call G1 (hr.mono (by decide)) rfl g1 k1 b1 .nil pass0 (pa_cons (pe_callTy (kListOf (K := K)) (by rfl) (T.free 11) (by decide +kernel) (pa_cons (pv 1) pa_nil)) pa_nil)) (pa_cons (pe_call G2 (hr.mono (by decide)) rfl g2 k2 b2 .nil pass0 (pa_cons (pv 1) pa_nil)) pa_nil))))) (pss_cons (ps_ret pe_bl) pss_nil) pss_nil) (pss_cons (ps_set (i := 2) sc.nd rfl (Or.inl rfl) (pe_call G4 (hr.mono (by decide)) rfl g4 k4 b4 .nil pass0 (pa_cons (pv 0) pa_nil))) (pss_cons (ps_set (i := 3) sc.nd rfl (Or.inl rfl) (pe_call G4 (hr.mono (by decide)) rfl g4 k4 b4 .nil pass0 (pa_cons (pv 0) pa_nil))) (pss_cons (ps_set (i := 4) sc.nd rfl (Or.inl rfl) (pe_call G5 (hr.mono (by decide)) rfl g5 k5 b5 .nil pass0 (pa_cons (pv 0) (pa_cons pe_int pa_nil)))) (pss_cons (ps_if (pt_not (pt_val (pe_call G3 (hr.mono (by decide)) rfl g3 k3 b3 .nil pass0 (pa_cons (pe_call G6 (hr.mono (by decide)) rfl g6 k6 b6 .nil pass0 (pa_cons (pe_cmpR op_eq (pv 4) pe_int (nomark _)) (pa_cons (pv 2) (pa_cons (pv 3) pa_nil)))) (pa_cons (pe_call G7 (hr.mono (by decide)) rfl g7 k7 b7 .nil pass0 (pa_cons (pv 2) (pa_cons (pv 3) pa_nil))) pa_nil))))) (pss_cons (ps_ret pe_bl) pss_nil) pss_nil) (pss_cons (ps_set (i := 5) sc.nd rfl (Or.inl rfl) (pe_call G8 (hr.mono (by decide)) rfl g8 k8 b8 .nil pass0 (pa_cons (pv 0) pa_nil))) (pss_cons (ps_set (i := 6) sc.nd rfl (Or.inl rfl) (pe_call G5 (hr.mono (by decide)) rfl g5 k5 b5 .nil pass0 (pa_cons (pv 0) (pa_cons (pv 5) pa_nil)))) (pss_cons (ps_set (i := 7) sc.nd rfl (Or.inl rfl) (pe_call G9 (hr.mono (by decide)) rfl g9 k9 b9 .nil pass0 (pa_cons (pv 0) pa_nil))) (pss_cons (ps_set (i := 8) sc.nd rfl (Or.inl rfl) (pe_call G10 (hr.mono (by decide)) rfl g10 k10 b10 .nil pass0 (pa_cons (pv 4) (pa_cons (pv 5) (pa_cons (pv 6) (pa_cons (pv 7) pa_nil)))))) (pss_cons (ps_if (PW.pt (pw_or (pt_cmpR op_eq (pv 4) pe_int (nomark _)) (pw_or1 (pt_cmpR op_eq (pv 4) pe_int (nomark _))))) (pss_cons (ps_set (i := 6) sc.nd rfl (Or.inl rfl) pe_int) pss_nil) pss_nil) (pss_cons (ps_if (pt_cmpR op_lt (pv 4) pe_int (nomark _)) (pss_cons (ps_set (i := 7) sc.nd rfl (Or.inl rfl) pe_int) pss_nil) pss_nil) (pss_cons (ps_ret (pe_call G3 (hr.mono (by decide)) rfl g3 k3 b3 .nil pass0 (pa_cons (pv 8) (pa_cons (pe_call G11 (hr.mono (by decide)) rfl g11 k11 b11 .nil pass0 (pa_cons (pv 5) (pa_cons (pv 6) (pa_cons (pv 7) pa_nil)))) pa_nil)))) pss_nil))))))))))))), ?_⟩
  refine sp_body0 h (fun _ _ => trivial) fun box => ?_
  show EvB K ⟨XT, fun _ _ _ _ => False⟩ 1 _ [some (.cell 0), none, none, none, none, none, none, none, none] [some (mv_H_law_box box)] (fun (w : Bool × H_law_box) => (.rt (tv rBool w.1) [some (mv_H_law_box w.2)] : OS)) (m_law_made_hold box)
  unfold m_law_made_hold
  exact (eb_bind fun r1 h1 => (eb_asg (ev_lstR (ef_call (F := F_law_only_days) (x := box) (ea_cons (ev_var rfl) ea_nil) h1 (ss := [.cell 0]) (ks := [0]) ))
(eb_bind fun r2 h2 => eb_bind fun r3 h3 => eb_bind fun r4 h4 => (eb_ifr (et_not (et_B (ev_call (F := F_law_as_due) (x := (r2, r3)) (ea_cons (ev_call (F := F_law_only_made) (x := r1.1) (ea_cons (ev_lstR (ef_cb1 (ev_var rfl) (rcF_list (is_seq (k := .l) (R := rInt) (xs := r1.1))))) ea_nil) h2 (ss := [.val (tv (rSq .l rInt) r1.1)]) (ks := []) ) (ea_cons (ev_call (F := F_law_only_due) (x := r1.1) (ea_cons (ev_var rfl) ea_nil) h3 (ss := [.val (tv (rSq .l rInt) r1.1)]) (ks := []) ) ea_nil)) h4 (ss := [.val (tv (rP2 rTxt (rSum rI_DaySet rInt)) r2), .val (tv (rP2 rTxt rTxt) r3)]) (ks := []) ))) (fun _ => (eb_ret ev_bool rfl rfl))
(fun _ => (eb_bind fun r5 h5 => (eb_asg (ev_call (F := F_law_bound_day) (x := r1.2) (ea_cons (ev_var rfl) ea_nil) h5 (ss := [.cell 0]) (ks := [0]) )
(eb_bind fun r6 h6 => (eb_asg (ev_call (F := F_law_bound_day) (x := r5.2) (ea_cons (ev_var rfl) ea_nil) h6 (ss := [.cell 0]) (ks := [0]) )
(eb_bind fun r7 h7 => (eb_asg (ev_call (F := F_law_take) (x := (r6.2, (5 : Int))) (ea_cons (ev_var rfl) (ea_cons ev_int ea_nil)) h7 (ss := [.cell 0, .val (tv rInt (5 : Int))]) (ks := [0]) )
(eb_bind fun r8 h8 => eb_bind fun r9 h9 => eb_bind fun r10 h10 => (eb_ifr (et_not (et_B (ev_call (F := F_law_as_due) (x := (r8, r9)) (ea_cons (ev_call (F := F_law_span_made) (x := ((decide (r7.1 = (4 : Int))), r5.1, r6.1)) (ea_cons (ev_op (ev_var rfl) ev_int rv_eqI) (ea_cons (ev_var rfl) (ea_cons (ev_var rfl) ea_nil))) h8 (ss := [.val (tv rBool (decide (r7.1 = (4 : Int)))), .val (tv rInt r5.1), .val (tv rInt r6.1)]) (ks := []) ) (ea_cons (ev_call (F := F_law_span_due) (x := (r5.1, r6.1)) (ea_cons (ev_var rfl) (ea_cons (ev_var rfl) ea_nil)) h9 (ss := [.val (tv rInt r5.1), .val (tv rInt r6.1)]) (ks := []) ) ea_nil)) h10 (ss := [.val (tv (rP2 rTxt (rSum rI_DaySet rInt)) r8), .val (tv (rP2 rTxt rTxt) r9)]) (ks := []) ))) (fun _ => (eb_ret ev_bool rfl rfl))
(fun _ => (eb_bind fun r11 h11 => (eb_asg (ev_call (F := F_law_length) (x := r7.2) (ea_cons (ev_var rfl) ea_nil) h11 (ss := [.cell 0]) (ks := [0]) )
(eb_bind fun r12 h12 => (eb_asg (ev_call (F := F_law_take) (x := (r11.2, r11.1)) (ea_cons (ev_var rfl) (ea_cons (ev_var rfl) ea_nil)) h12 (ss := [.cell 0, .val (tv rInt r11.1)]) (ks := [0]) )
(eb_bind fun r13 h13 => (eb_asg (ev_call (F := F_law_begin) (x := r12.2) (ea_cons (ev_var rfl) ea_nil) h13 (ss := [.cell 0]) (ks := [0]) )
(eb_bind fun r14 h14 => (eb_asg (ev_call (F := F_law_every_made) (x := (r7.1, r11.1, r12.1, r13.1)) (ea_cons (ev_var rfl) (ea_cons (ev_var rfl) (ea_cons (ev_var rfl) (ea_cons (ev_var rfl) ea_nil)))) h14 (ss := [.val (tv rInt r7.1), .val (tv rInt r11.1), .val (tv rInt r12.1), .val (tv rInt r13.1)]) (ks := []) )
(eb_ifj (g := fun (s16 : Int) => [some (.cell 0), some (.val (tv (rSq .l rInt) r1.1)), some (.val (tv rInt r5.1)), some (.val (tv rInt r6.1)), some (.val (tv rInt r7.1)), some (.val (tv rInt r11.1)), some (.val (tv rInt s16)), some (.val (tv rInt r13.1)), some (.val (tv (rP2 rTxt (rSum rI_DaySet rInt)) r14))]) (mu := fun (s16 : Int) => [some (mv_H_law_box r13.2)]) (et_or0 (et_test (ev_op (ev_var rfl) ev_int rv_eqI)) (et_test (ev_op (ev_var rfl) ev_int rv_eqI))) (fun _ => (eb_bind fun place15 h15 => (eb_asg (oeV h15 ev_int)
(eb_nil rfl (.keep (.keep (.keep (.keep (.keep (.keep (.keep (.keep (.keep .nil))))))))) rfl (Nat.le_of_ble_eq_true rfl) rfl))))
(fun _ => (eb_nil rfl (.keep (.keep (.keep (.keep (.keep (.keep (.keep (.keep (.keep .nil))))))))) rfl (Nat.le_of_ble_eq_true rfl) rfl)) (fun _ => Nat.le_of_ble_eq_true rfl)
(fun s16 => (eb_ifj (g := fun (s18 : Int) => [some (.cell 0), some (.val (tv (rSq .l rInt) r1.1)), some (.val (tv rInt r5.1)), some (.val (tv rInt r6.1)), some (.val (tv rInt r7.1)), some (.val (tv rInt r11.1)), some (.val (tv rInt s16)), some (.val (tv rInt s18)), some (.val (tv (rP2 rTxt (rSum rI_DaySet rInt)) r14))]) (mu := fun (s18 : Int) => [some (mv_H_law_box r13.2)]) (et_test (ev_op (ev_var rfl) ev_int rv_lt)) (fun _ => (eb_bind fun begin17 h17 => (eb_asg (oeV h17 ev_int)
(eb_nil rfl (.keep (.keep (.keep (.keep (.keep (.keep (.keep (.keep (.keep .nil))))))))) rfl (Nat.le_of_ble_eq_true rfl) rfl))))
(fun _ => (eb_nil rfl (.keep (.keep (.keep (.keep (.keep (.keep (.keep (.keep (.keep .nil))))))))) rfl (Nat.le_of_ble_eq_true rfl) rfl)) (fun _ => Nat.le_of_ble_eq_true rfl)
(fun s18 => eb_bind fun r19 h19 => eb_bind fun r20 h20 => (eb_ret (ev_call (F := F_law_as_due) (x := (r14, r19)) (ea_cons (ev_var rfl) (ea_cons (ev_call (F := F_law_every_due) (x := (r11.1, s16, s18)) (ea_cons (ev_var rfl) (ea_cons (ev_var rfl) (ea_cons (ev_var rfl) ea_nil))) h19 (ss := [.val (tv rInt r11.1), .val (tv rInt s16), .val (tv rInt s18)]) (ks := []) ) ea_nil)) h20 (ss := [.val (tv (rP2 rTxt (rSum rI_DaySet rInt)) r14), .val (tv (rP2 rTxt rTxt) r19)]) (ks := []) ) rfl rfl)))))))))))))))))))))))))))
theorem ok__law_made_hold (T : Txt fa fn K mg) : OkF P w K mg base "_law_made_hold" ["box"] 8 (spT K XT F_law_made_hold) := by
  obtain ⟨fd, F⟩ := T.c.def_ 28 rfl
  exact ⟨fd, fn__law_made_hold T F, FunD.bindsN F fun _ _ _ _ _ _ us hl => match us, hl with | [_], _ => rfl, F.kp, T.glob 60 rfl⟩
end
abbrev st_DaySet____contains__ : Stmt := topM 12 9
abbrev NN_DaySet____contains__ : List Str := ["self", "day"]
theorem sc_DaySet____contains__ : FnScope NN_DaySet____contains__ ["self", "day"] (defScope st_DaySet____contains__) := ⟨rfl, rfl, rfl, by decide +kernel, rfl, by decide +kernel, by decide +kernel⟩
abbrev F_DaySet____contains__ : FS (C_DaySet × Int) (Bool) where
  ins := fun x => [.val (tv rI_DaySet x.1), .val (tv rInt x.2)]
  cells := fun x => []
  m := fun x => m_DaySet____contains__ x.1 x.2
  out := fun x w => .rt (tv rBool w) []
section
variable {P : Program} {w : World} {K : PySem.W.Frag} {mg : Str → Option Value} {base : Heap}
set_option maxHeartbeats 4000000 in
theorem fn_DaySet____contains__ {fd : FuncData} (T : Txt fa fn K mg) (F : FunD K d29.name d29.qual d29.params d29.body d29.scope (d29.dvs K) (d29.kws K) (He.fAd K d29.at_) fd) : FnOk P w K mg base CX0 1 (He.ma K (He.ga K "DaySet") "__contains__") fd ["self", "day"] (spT K XT F_DaySet____contains__) := by
  have sc := sc_DaySet____contains__
  refine F.ok sc (sp_len fun _ => rfl) (fun cdv A outer s H vs Q E hr h => ?_)
  refine ⟨_, PSs.nox (pss_cons (ps_if (pt_cmpR op_lt (pv 1) (pe_fld (pv 0) rfl) (nomark _)) (pss_cons (ps_ret (pe_cmpR op_eq (pe_ix ix_str (pe_fld (pv 0) rfl) (pv 1) (fun _ _ => rfl)) pe_str (nomark _))) pss_nil) pss_nil) (pss_cons (ps_ret (pe_cmpR op_eq (pe_ix ix_str (pe_fld (pv 0) rfl) (pe_op op_mod (pe_op op_sub (pv 1) (pe_fld (pv 0) rfl)) (pe_fld (pv 0) rfl)) (fun _ _ => rfl)) pe_str (nomark _))) pss_nil)), ?_⟩
  refine sp_body0 h (fun _ _ => trivial) fun x => ?_
  obtain ⟨self, day⟩ := x
  show EvB K ⟨XT, fun _ _ _ _ => False⟩ 0 _ [some (.val (tv rI_DaySet self)), some (.val (tv rInt day))] [] (fun (w : Bool) => (.rt (tv rBool w) [] : OS)) (m_DaySet____contains__ self day)
  unfold m_DaySet____contains__
  exact (eb_ifr (et_test (ev_op (ev_var rfl) (ev_fldO (ev_as (s' := .val (oI_DaySet self)) (ev_var rfl) rfl) (T.cls 23 rfl) (T.noat 25 rfl) rfl rfl) rv_lt)) (fun _ => eb_bind fun r1 h1 => eb_bind fun r2 h2 => (eb_ret (ev_op (ev_op (ev_fldO (ev_as (s' := .val (oI_DaySet self)) (ev_var rfl) rfl) (T.cls 23 rfl) (T.noat 27 rfl) rfl rfl) (ev_var rfl) (rv_ixX h1 h2)) (ev_txt (l := [49]) (by decide +kernel)) rv_eqX) rfl rfl))
(fun _ => eb_bind fun r3 h3 => eb_bind fun r4 h4 => eb_bind fun r5 h5 => (eb_ret (ev_op (ev_op (ev_fldO (ev_as (s' := .val (oI_DaySet self)) (ev_var rfl) rfl) (T.cls 23 rfl) (T.noat 26 rfl) rfl rfl) (ev_op (ev_op (ev_var rfl) (ev_fldO (ev_as (s' := .val (oI_DaySet self)) (ev_var rfl) rfl) (T.cls 23 rfl) (T.noat 25 rfl) rfl rfl) rv_sub) (ev_fldO (ev_as (s' := .val (oI_DaySet self)) (ev_var rfl) rfl) (T.cls 23 rfl) (T.noat 24 rfl) rfl rfl) (rv_modP h3)) (rv_ixX h4 h5)) (ev_txt (l := [49]) (by decide +kernel)) rv_eqX) rfl rfl)))
theorem ok_DaySet____contains__ (T : Txt fa fn K mg) : OkS1 P w K mg base CX0 (He.ma K (He.ga K "DaySet") "__contains__") ["self", "day"] 1 (spT K XT F_DaySet____contains__) := by
  obtain ⟨fd, F⟩ := T.c.def_ 29 rfl
  exact ⟨fd, fn_DaySet____contains__ T F, FunD.bindsN F fun _ _ _ _ _ _ us hl => match us, hl with | [_, _], _ => rfl⟩
end
abbrev st__law_member : Stmt := top 32
abbrev NN__law_member : List Str := ["one", "when"]
theorem sc__law_member : FnScope NN__law_member ["one", "when"] (defScope st__law_member) := ⟨rfl, rfl, rfl, by decide +kernel, rfl, by decide +kernel, by decide +kernel⟩
abbrev F_law_member : FS (((List Nat) × (List Nat)) × Int) (Bool) where
  ins := fun x => [.val (tv (rP2 rTxt rTxt) x.1), .val (tv rInt x.2)]
  cells := fun x => []
  m := fun x => m_law_member x.1 x.2
  out := fun x w => .rt (tv rBool w) []
section
variable {P : Program} {w : World} {K : PySem.W.Frag} {mg : Str → Option Value} {base : Heap}
set_option maxHeartbeats 4000000 in
theorem fn__law_member {fd : FuncData} (T : Txt fa fn K mg) (F : FunD K d30.name d30.qual d30.params d30.body d30.scope (d30.dvs K) (d30.kws K) (He.fAd K d30.at_) fd) : FnOk P w K mg base CX0 1 (He.ga K "_law_member") fd ["one", "when"] (spT K XT F_law_member) := by
  have sc := sc__law_member
  refine F.ok sc (sp_len fun _ => rfl) (fun cdv A outer s H vs Q E hr h => ?_)
  refine ⟨_, PSs.nox (pss_cons (ps_if (pt_cmpR op_lt (pv 1) (pe_callB call_len_str (by rfl) (T.free 1) (by decide +kernel) (pa_cons (pe_ix (kIxT (K := K)) (pv 0) pe_int (fun _ _ => rfl)) pa_nil)) (nomark _)) (pss_cons (ps_ret (pe_cmpR op_eq (pe_ix ix_str (pe_ix (kIxT (K := K)) (pv 0) pe_int (fun _ _ => rfl)) (pv 1) (fun _ _ => rfl)) pe_str (nomark _))) pss_nil) pss_nil) (pss_cons (ps_ret (pe_cmpR op_eq (pe_ix ix_str (pe_ix (kIxT (K := K)) (pv 0) pe_int (fun _ _ => rfl)) (pe_op op_mod (pe_callTy call_int1 (by rfl) (T.free 0) (by decide +kernel) (pa_cons (pe_op op_sub (pv 1) (pe_callB call_len_str (by rfl) (T.free 1) (by decide +kernel) (pa_cons (pe_ix (kIxT (K := K)) (pv 0) pe_int (fun _ _ => rfl)) pa_nil))) pa_nil)) (pe_callB call_len_str (by rfl) (T.free 1) (by decide +kernel) (pa_cons (pe_ix (kIxT (K := K)) (pv 0) pe_int (fun _ _ => rfl)) pa_nil))) (fun _ _ => rfl)) pe_str (nomark _))) pss_nil)), ?_⟩
  refine sp_body0 h (fun _ _ => trivial) fun x => ?_
  obtain ⟨one, when⟩ := x
  show EvB K ⟨XT, fun _ _ _ _ => False⟩ 0 _ [some (.val (tv (rP2 rTxt rTxt) one)), some (.val (tv rInt when))] [] (fun (w : Bool) => (.rt (tv rBool w) [] : OS)) (m_law_member one when)
  unfold m_law_member
  exact (eb_bind fun r1 h1 => (eb_ifr (et_test (ev_op (ev_var rfl) (ev_cb1 (ev_op (ev_var rfl) ev_int (rv_ixT is_p2 rfl)) (rc_lenX h1)) rv_lt)) (fun _ => eb_bind fun r2 h2 => eb_bind fun r3 h3 => (eb_ret (ev_op (ev_op (ev_op (ev_var rfl) ev_int (rv_ixT is_p2 rfl)) (ev_var rfl) (rv_ixX h2 h3)) (ev_txt (l := [49]) (by decide +kernel)) rv_eqX) rfl rfl))
(fun _ => eb_bind fun r4 h4 => eb_bind fun r5 h5 => eb_bind fun r6 h6 => eb_bind fun r7 h7 => eb_bind fun r8 h8 => (eb_ret (ev_op (ev_op (ev_op (ev_var rfl) ev_int (rv_ixT is_p2 rfl)) (ev_op (ev_cb1 (ev_op (ev_var rfl) (ev_cb1 (ev_op (ev_var rfl) ev_int (rv_ixT is_p2 rfl)) (rc_lenX h4)) rv_sub) rc_int) (ev_cb1 (ev_op (ev_var rfl) ev_int (rv_ixT is_p2 rfl)) (rc_lenX h5)) (rv_modP h6)) (rv_ixX h7 h8)) (ev_txt (l := [49]) (by decide +kernel)) rv_eqX) rfl rfl))))
theorem ok__law_member (T : Txt fa fn K mg) : OkF P w K mg base "_law_member" ["one", "when"] 1 (spT K XT F_law_member) := by
  obtain ⟨fd, F⟩ := T.c.def_ 30 rfl
  exact ⟨fd, fn__law_member T F, FunD.bindsN F fun _ _ _ _ _ _ us hl => match us, hl with | [_, _], _ => rfl, F.kp, T.glob 62 rfl⟩
end
abbrev st__law_truth : Stmt := top 29
abbrev NN__law_truth : List Str := ["actual", "due"]
theorem sc__law_truth : FnScope NN__law_truth ["actual", "due"] (defScope st__law_truth) := ⟨rfl, rfl, rfl, by decide +kernel, rfl, by decide +kernel, by decide +kernel⟩
abbrev F_law_truth : FS (Bool × Bool) (Bool) where
  ins := fun x => [.val (tv rBool x.1), .val (tv rBool x.2)]
  cells := fun x => []
  m := fun x => m_law_truth x.1 x.2
  out := fun x w => .rt (tv rBool w) []
section
variable {P : Program} {w : World} {K : PySem.W.Frag} {mg : Str → Option Value} {base : Heap}
set_option maxHeartbeats 4000000 in
theorem fn__law_truth {fd : FuncData} (T : Txt fa fn K mg) (F : FunD K d31.name d31.qual d31.params d31.body d31.scope (d31.dvs K) (d31.kws K) (He.fAd K d31.at_) fd) : FnOk P w K mg base CX0 1 (He.ga K "_law_truth") fd ["actual", "due"] (spT K XT F_law_truth) := by
  have sc := sc__law_truth
  refine F.ok sc (sp_len fun _ => rfl) (fun cdv A outer s H vs Q E hr h => ?_)
  refine ⟨_, PSs.nox (pss_cons (ps_if (pt_val (pv 1)) (pss_cons (ps_ret (pe_cmpR op_isBl (pv 0) pe_bl (nomark _))) pss_nil) pss_nil) (pss_cons (ps_ret (pe_cmpR op_isBl (pv 0) pe_bl (nomark _))) pss_nil)), ?_⟩
  refine sp_body0 h (fun _ _ => trivial) fun x => ?_
  obtain ⟨actual, due⟩ := x
  show EvB K ⟨XT, fun _ _ _ _ => False⟩ 0 _ [some (.val (tv rBool actual)), some (.val (tv rBool due))] [] (fun (w : Bool) => (.rt (tv rBool w) [] : OS)) (m_law_truth actual due)
  unfold m_law_truth
  exact (eb_ifr (et_B (ev_var rfl)) (fun _ => (eb_ret (ev_op (ev_var rfl) ev_bool rv_isBB) rfl rfl))
(fun _ => (eb_ret (ev_op (ev_var rfl) ev_bool rv_isBB) rfl rfl)))
theorem ok__law_truth (T : Txt fa fn K mg) : OkF P w K mg base "_law_truth" ["actual", "due"] 1 (spT K XT F_law_truth) := by
  obtain ⟨fd, F⟩ := T.c.def_ 31 rfl
  exact ⟨fd, fn__law_truth T F, FunD.bindsN F fun _ _ _ _ _ _ us hl => match us, hl with | [_, _], _ => rfl, F.kp, T.glob 63 rfl⟩
end
abbrev st_DaySet__next_from : Stmt := topM 12 19
abbrev NN_DaySet__next_from : List Str := ["self", "day", "first", "turn", "at"]
theorem sc_DaySet__next_from : FnScope NN_DaySet__next_from ["self", "day"] (defScope st_DaySet__next_from) := ⟨rfl, rfl, rfl, by decide +kernel, rfl, by decide +kernel, by decide +kernel⟩
abbrev F_DaySet__next_from : FS (C_DaySet × Int) (Option Int) where
  ins := fun x => [.val (tv rI_DaySet x.1), .val (tv rInt x.2)]
  cells := fun x => []
  m := fun x => m_DaySet__next_from x.1 x.2
  out := fun x w => .rt (tv (rOpt rInt) w) []
section
variable {P : Program} {w : World} {K : PySem.W.Frag} {mg : Str → Option Value} {base : Heap}
set_option maxHeartbeats 4000000 in
theorem fn_DaySet__next_from {fd : FuncData} (T : Txt fa fn K mg) (F : FunD K d32.name d32.qual d32.params d32.body d32.scope (d32.dvs K) (d32.kws K) (He.fAd K d32.at_) fd) : FnOk P w K mg base CX0 1 (He.ma K (He.ga K "DaySet") "next_from") fd ["self", "day"] (spT K XT F_DaySet__next_from) := by
  have sc := sc_DaySet__next_from
  refine F.ok sc (sp_len fun _ => rfl) (fun cdv A outer s H vs Q E hr h => ?_)
  refine ⟨_, PSs.nox (pss_cons (ps_if (pt_cmpR op_lt (pv 1) (pe_fld (pv 0) rfl) (nomark _)) (pss_cons (ps_set (i := 4) sc.nd rfl (Or.inl rfl) (pe_bm PySem.F.plainAttrs_str PySem.F.slot_str_find PySem.F.type_str_find mt_find3 (pe_fld (pv 0) rfl) (pa_cons pe_str (pa_cons (pv 1) pa_nil)))) (pss_cons (ps_if (pt_cmpR op_ge (pv 4) pe_int (nomark _)) (pss_cons (ps_ret (pv 4)) pss_nil) pss_nil) pss_nil)) pss_nil) (pss_cons (ps_set (i := 2) sc.nd rfl (Or.inl rfl) (pe_callB (call_max2 rfl) (by rfl) (T.free 7) (by decide +kernel) (pa_cons (pv 1) (pa_cons (pe_fld (pv 0) rfl) pa_nil)))) (pss_cons (ps_set (i := 3) sc.nd rfl (Or.inl rfl) (pe_op op_mod (pe_op op_sub (pv 2) (pe_fld (pv 0) rfl)) (pe_fld (pv 0) rfl))) (pss_cons (ps_set (i := 4) sc.nd rfl (Or.inl rfl) (pe_m1 PySem.F.slot_str_find PySem.F.type_str_find mt_find (pe_op op_add_str (pe_slice sl_str (pe_fld (pv 0) rfl) (po_some (pv 3)) po_none) (pe_slice sl_str (pe_fld (pv 0) rfl) po_none (po_some (pv 3)))) pe_str)) (pss_cons (ps_if (pt_cmpR op_lt (pv 4) pe_int (nomark _)) (pss_cons (ps_ret pe_non) pss_nil) pss_nil) (pss_cons (ps_ret (pe_op op_add (pv 2) (pv 4))) pss_nil)))))), ?_⟩
  refine sp_body0 h (fun _ _ => trivial) fun x => ?_
  obtain ⟨self, day⟩ := x
  show EvB K ⟨XT, fun _ _ _ _ => False⟩ 0 _ [some (.val (tv rI_DaySet self)), some (.val (tv rInt day)), none, none, none] [] (fun (w : Option Int) => (.rt (tv (rOpt rInt) w) [] : OS)) (m_DaySet__next_from self day)
  unfold m_DaySet__next_from
  exact (eb_ifj (g := fun (s2 : Unit) => [some (.val (tv rI_DaySet self)), some (.val (tv rInt day)), none, none, none]) (mu := fun (s2 : Unit) => []) (et_test (ev_op (ev_var rfl) (ev_fldO (ev_as (s' := .val (oI_DaySet self)) (ev_var rfl) rfl) (T.cls 23 rfl) (T.noat 25 rfl) rfl rfl) rv_lt)) (fun _ => (eb_bind fun at1 h1 => (eb_asg (oeV h1 (ev_find3X (ev_fldO (ev_as (s' := .val (oI_DaySet self)) (ev_var rfl) rfl) (T.cls 23 rfl) (T.noat 27 rfl) rfl rfl) (ev_txt (l := [49]) (by decide +kernel)) (ev_var rfl)))
(eb_ifl (et_test (ev_op (ev_var rfl) ev_int rv_ge)) (fun _ => (eb_ret (ev_osome (ev_var rfl)) rfl rfl))
(fun _ => (eb_nil rfl (.keep (.keep (.keep (.keep (.drop .nil))))) rfl (Nat.le_of_ble_eq_true rfl) rfl))))))
(fun _ => (eb_nil rfl (.keep (.keep (.keep (.keep (.keep .nil))))) rfl (Nat.le_of_ble_eq_true rfl) rfl)) (fun _ => Nat.le_of_ble_eq_true rfl)
(fun s2 => (eb_bind fun first3 h3 => (eb_asg (oeV h3 (ev_cb2 (ev_var rfl) (ev_fldO (ev_as (s' := .val (oI_DaySet self)) (ev_var rfl) rfl) (T.cls 23 rfl) (T.noat 25 rfl) rfl rfl) rc_max2))
(eb_bind fun r4 h4 => (eb_asg (ev_op (ev_op (ev_var rfl) (ev_fldO (ev_as (s' := .val (oI_DaySet self)) (ev_var rfl) rfl) (T.cls 23 rfl) (T.noat 25 rfl) rfl rfl) rv_sub) (ev_fldO (ev_as (s' := .val (oI_DaySet self)) (ev_var rfl) rfl) (T.cls 23 rfl) (T.noat 24 rfl) rfl rfl) (rv_modP h4))
(eb_bind fun r5 h5 => eb_bind fun r6 h6 => eb_bind fun r7 h7 => eb_bind fun at8 h8 => (eb_asg (oeV h8 (ev_findX (ev_op (ev_slX (ev_fldO (ev_as (s' := .val (oI_DaySet self)) (ev_var rfl) rfl) (T.cls 23 rfl) (T.noat 26 rfl) rfl rfl) (eo_some (ev_var rfl)) eo_none h5) (ev_slX (ev_fldO (ev_as (s' := .val (oI_DaySet self)) (ev_var rfl) rfl) (T.cls 23 rfl) (T.noat 26 rfl) rfl rfl) eo_none (eo_some (ev_var rfl)) h6) (rv_catX h7)) (ev_txt (l := [49]) (by decide +kernel))))
(eb_ifr (et_test (ev_op (ev_var rfl) ev_int rv_lt)) (fun _ => (eb_ret (ev_onone ev_none) rfl rfl))
(fun _ => (eb_ret (ev_osome (ev_op (ev_var rfl) (ev_var rfl) rv_add)) rfl rfl)))))))))))
theorem ok_DaySet__next_from (T : Txt fa fn K mg) : OkS1 P w K mg base CX0 (He.ma K (He.ga K "DaySet") "next_from") ["self", "day"] 1 (spT K XT F_DaySet__next_from) := by
  obtain ⟨fd, F⟩ := T.c.def_ 32 rfl
  exact ⟨fd, fn_DaySet__next_from T F, FunD.bindsN F fun _ _ _ _ _ _ us hl => match us, hl with | [_, _], _ => rfl⟩
end
abbrev st__law_next : Stmt := top 33
abbrev NN__law_next : List Str := ["one", "when", "settled", "turned", "met"]
theorem sc__law_next : FnScope NN__law_next ["one", "when"] (defScope st__law_next) := ⟨rfl, rfl, rfl, by decide +kernel, rfl, by decide +kernel, by decide +kernel⟩
abbrev F_law_next : FS (((List Nat) × (List Nat)) × Int) (Option Int) where
  ins := fun x => [.val (tv (rP2 rTxt rTxt) x.1), .val (tv rInt x.2)]
  cells := fun x => []
  m := fun x => m_law_next x.1 x.2
  out := fun x w => .rt (tv (rOpt rInt) w) []
section
variable {P : Program} {w : World} {K : PySem.W.Frag} {mg : Str → Option Value} {base : Heap}
set_option maxHeartbeats 4000000 in
theorem fn__law_next {fd : FuncData} (T : Txt fa fn K mg) (F : FunD K d33.name d33.qual d33.params d33.body d33.scope (d33.dvs K) (d33.kws K) (He.fAd K d33.at_) fd) : FnOk P w K mg base CX0 1 (He.ga K "_law_next") fd ["one", "when"] (spT K XT F_law_next) := by
  have sc := sc__law_next
  refine F.ok sc (sp_len fun _ => rfl) (fun cdv A outer s H vs Q E hr h => ?_)
  refine ⟨_, PSs.nox (pss_cons (ps_set (i := 2) sc.nd rfl (Or.inl rfl) (pe_callB call_len_str (by rfl) (T.free 1) (by decide +kernel) (pa_cons (pe_ix (kIxT (K := K)) (pv 0) pe_int (fun _ _ => rfl)) pa_nil))) (pss_cons (ps_if (pt_cmpR op_lt (pv 1) (pv 2) (nomark _)) (pss_cons (ps_set (i := 4) sc.nd rfl (Or.inl rfl) (pe_bm PySem.F.plainAttrs_str PySem.F.slot_str_find PySem.F.type_str_find mt_find3 (pe_op op_add_str (pe_ix (kIxT (K := K)) (pv 0) pe_int (fun _ _ => rfl)) (pe_ix (kIxT (K := K)) (pv 0) pe_int (fun _ _ => rfl))) (pa_cons pe_str (pa_cons (pv 1) pa_nil)))) (pss_cons (ps_if (pt_cmpR op_lt (pv 4) pe_int (nomark _)) (pss_cons (ps_ret pe_non) pss_nil) pss_nil) (pss_cons (ps_ret (pv 4)) pss_nil))) pss_nil) (pss_cons (ps_set (i := 3) sc.nd rfl (Or.inl rfl) (pe_op op_mod (pe_callTy call_int1 (by rfl) (T.free 0) (by decide +kernel) (pa_cons (pe_op op_sub (pv 1) (pv 2)) pa_nil)) (pe_callB call_len_str (by rfl) (T.free 1) (by decide +kernel) (pa_cons (pe_ix (kIxT (K := K)) (pv 0) pe_int (fun _ _ => rfl)) pa_nil)))) (pss_cons (ps_set (i := 4) sc.nd rfl (Or.inl rfl) (pe_bm PySem.F.plainAttrs_str PySem.F.slot_str_find PySem.F.type_str_find mt_find3 (pe_op op_add_str (pe_ix (kIxT (K := K)) (pv 0) pe_int (fun _ _ => rfl)) (pe_ix (kIxT (K := K)) (pv 0) pe_int (fun _ _ => rfl))) (pa_cons pe_str (pa_cons (pv 3) pa_nil)))) (pss_cons (ps_if (pt_cmpR op_lt (pv 4) pe_int (nomark _)) (pss_cons (ps_ret pe_non) pss_nil) pss_nil) (pss_cons (ps_ret (pe_op op_sub (pe_op op_add (pv 1) (pv 4)) (pv 3))) pss_nil)))))), ?_⟩
  refine sp_body0 h (fun _ _ => trivial) fun x => ?_
  obtain ⟨one, when⟩ := x
  show EvB K ⟨XT, fun _ _ _ _ => False⟩ 0 _ [some (.val (tv (rP2 rTxt rTxt) one)), some (.val (tv rInt when)), none, none, none] [] (fun (w : Option Int) => (.rt (tv (rOpt rInt) w) [] : OS)) (m_law_next one when)
  unfold m_law_next
  exact (eb_bind fun r1 h1 => eb_bind fun settled2 h2 => (eb_asg (oeV h2 (ev_cb1 (ev_op (ev_var rfl) ev_int (rv_ixT is_p2 rfl)) (rc_lenX h1)))
(eb_ifr (et_test (ev_op (ev_var rfl) (ev_var rfl) rv_lt)) (fun _ => (eb_bind fun r3 h3 => eb_bind fun met4 h4 => (eb_asg (oeV h4 (ev_find3X (ev_op (ev_op (ev_var rfl) ev_int (rv_ixT is_p2 rfl)) (ev_op (ev_var rfl) ev_int (rv_ixT is_p2 rfl)) (rv_catX h3)) (ev_txt (l := [49]) (by decide +kernel)) (ev_var rfl)))
(eb_ifr (et_test (ev_op (ev_var rfl) ev_int rv_lt)) (fun _ => (eb_ret (ev_onone ev_none) rfl rfl))
(fun _ => (eb_ret (ev_osome (ev_var rfl)) rfl rfl))))))
(fun _ => (eb_bind fun r5 h5 => eb_bind fun r6 h6 => (eb_asg (ev_op (ev_cb1 (ev_op (ev_var rfl) (ev_var rfl) rv_sub) rc_int) (ev_cb1 (ev_op (ev_var rfl) ev_int (rv_ixT is_p2 rfl)) (rc_lenX h5)) (rv_modP h6))
(eb_bind fun r7 h7 => eb_bind fun met8 h8 => (eb_asg (oeV h8 (ev_find3X (ev_op (ev_op (ev_var rfl) ev_int (rv_ixT is_p2 rfl)) (ev_op (ev_var rfl) ev_int (rv_ixT is_p2 rfl)) (rv_catX h7)) (ev_txt (l := [49]) (by decide +kernel)) (ev_var rfl)))
(eb_ifr (et_test (ev_op (ev_var rfl) ev_int rv_lt)) (fun _ => (eb_ret (ev_onone ev_none) rfl rfl))
(fun _ => (eb_ret (ev_osome (ev_op (ev_op (ev_var rfl) (ev_var rfl) rv_add) (ev_var rfl) rv_sub)) rfl rfl)))))))))))
theorem ok__law_next (T : Txt fa fn K mg) : OkF P w K mg base "_law_next" ["one", "when"] 1 (spT K XT F_law_next) := by
  obtain ⟨fd, F⟩ := T.c.def_ 33 rfl
  exact ⟨fd, fn__law_next T F, FunD.bindsN F fun _ _ _ _ _ _ us hl => match us, hl with | [_, _], _ => rfl, F.kp, T.glob 65 rfl⟩
end
abbrev F_law_integer_1 : FS (Int × (Option Int)) (Bool) where
  ins := fun x => [.val (tv rInt x.1), .val (tv (rOpt rInt) x.2)]
  cells := fun x => []
  m := fun x => m_law_integer_1 x.1 x.2
  out := fun x w => .rt (tv rBool w) []
section
variable {P : Program} {w : World} {K : PySem.W.Frag} {mg : Str → Option Value} {base : Heap}
set_option maxHeartbeats 4000000 in
theorem fn__law_integer_1 {fd : FuncData} (T : Txt fa fn K mg) (F : FunD K d17.name d17.qual d17.params d17.body d17.scope (d17.dvs K) (d17.kws K) (He.fAd K d17.at_) fd) : FnOk P w K mg base CX0 1 (He.ga K "_law_integer") fd ["actual", "due"] (spT K XT F_law_integer_1) := by
  have sc := sc__law_integer
  refine F.ok sc (sp_len fun _ => rfl) (fun cdv A outer s H vs Q E hr h => ?_)
  refine ⟨_, PSs.nox (pss_cons (ps_ret (pe_and (pe_callB (kIsi (K := K)) (by rfl) (T.free 40) (by decide +kernel) (pa_cons (pv 0) (pa_cons (pe_bltn (v := .ty "int") (by rfl) (T.free 0) (by decide +kernel) rfl) pa_nil))) (pe_and (pe_not (pe_callB (kIsi (K := K)) (by rfl) (T.free 40) (by decide +kernel) (pa_cons (pv 0) (pa_cons (pe_bltn (v := .ty "bool") (by rfl) (T.free 41) (by decide +kernel) rfl) pa_nil)))) (pe_one (pe_cmpR op_eq (pv 0) (pv 1) (nomark _)))))) pss_nil), ?_⟩
  refine sp_body0 h (fun _ _ => trivial) fun x => ?_
  obtain ⟨actual, due⟩ := x
  show EvB K ⟨XT, fun _ _ _ _ => False⟩ 0 _ [some (.val (tv rInt actual)), some (.val (tv (rOpt rInt) due))] [] (fun (w : Bool) => (.rt (tv rBool w) [] : OS)) (m_law_integer_1 actual due)
  unfold m_law_integer_1
  exact eb_bind fun r4 h4 => (eb_ret (ev_andM (ev_cb2 (s2 := .val (rTy "int")) (ev_var rfl) (ev_c fun _ _ => rfl) (rc_isi (R := rInt) (x := actual) ty_int (by decide +kernel))) h4 (fun _ e5 => bo e5 fun r2 h2 e5 => oeV e5 (ev_andM (ev_notV (ev_cb2 (s2 := .val (rTy "bool")) (ev_var rfl) (ev_c fun _ _ => rfl) (rc_isi (R := rInt) (x := actual) ty_int (by decide +kernel)))) h2 (fun _ e3 => bo e3 fun r1 h1 e3 => oeV e3 (ev_op (ev_var rfl) (ev_oget (ev_var rfl) h1) rv_eqI))))) rfl rfl)
theorem ok__law_integer_1 (T : Txt fa fn K mg) : OkF P w K mg base "_law_integer" ["actual", "due"] 1 (spT K XT F_law_integer_1) := by
  obtain ⟨fd, F⟩ := T.c.def_ 17 rfl
  exact ⟨fd, fn__law_integer_1 T F, FunD.bindsN F fun _ _ _ _ _ _ us hl => match us, hl with | [_, _], _ => rfl, F.kp, T.glob 42 rfl⟩
end
abbrev st__law_same : Stmt := top 31
abbrev NN__law_same : List Str := ["actual", "due"]
theorem sc__law_same : FnScope NN__law_same ["actual", "due"] (defScope st__law_same) := ⟨rfl, rfl, rfl, by decide +kernel, rfl, by decide +kernel, by decide +kernel⟩
abbrev F_law_same : FS ((Option Int) × (Option Int)) (Bool) where
  ins := fun x => [.val (tv (rOpt rInt) x.1), .val (tv (rOpt rInt) x.2)]
  cells := fun x => []
  m := fun x => m_law_same x.1 x.2
  out := fun x w => .rt (tv rBool w) []
section
variable {P : Program} {w : World} {K : PySem.W.Frag} {mg : Str → Option Value} {base : Heap}
set_option maxHeartbeats 4000000 in
theorem fn__law_same {fd : FuncData} (T : Txt fa fn K mg) (F : FunD K d34.name d34.qual d34.params d34.body d34.scope (d34.dvs K) (d34.kws K) (He.fAd K d34.at_) fd) : FnOk P w K mg base CX0 2 (He.ga K "_law_same") fd ["actual", "due"] (spT K XT F_law_same) := by
  have sc := sc__law_same
  obtain ⟨fd0, G0, b0, k0, g0⟩ := ok__law_integer_1 (P := P) (w := w) (base := base) T
  refine F.ok sc (sp_len fun _ => rfl) (fun cdv A outer s H vs Q E hr h => ?_)
  refine ⟨_, PSs.nox (pss_cons (ps_if (pt_cmpR op_isN1 (pv 1) pe_non (nomark _)) (pss_cons (ps_ret (pe_cmpR op_isN1 (pv 0) pe_non (nomark _))) pss_nil) pss_nil) (pss_cons (ps_ret (pe_call G0 (hr.mono (by decide)) rfl g0 k0 b0 .nil pass0 (pa_cons (pv 0) (pa_cons (pv 1) pa_nil)))) pss_nil)), ?_⟩
  refine sp_body0 h (fun _ _ => trivial) fun x => ?_
  obtain ⟨actual, due⟩ := x
  show EvB K ⟨XT, fun _ _ _ _ => False⟩ 0 _ [some (.val (tv (rOpt rInt) actual)), some (.val (tv (rOpt rInt) due))] [] (fun (w : Bool) => (.rt (tv rBool w) [] : OS)) (m_law_same actual due)
  unfold m_law_same
  exact (eb_ifr (et_test (ev_op (ev_var rfl) ev_none (rv_isN non_int))) (fun _ => (eb_ret (ev_op (ev_var rfl) ev_none (rv_isN non_int)) rfl rfl))
(fun _ => eb_bind fun r1 h1 => eb_bind fun r2 h2 => (eb_ret (ev_call (F := F_law_integer_1) (x := (r1, due)) (ea_cons (ev_oget (ev_var rfl) h1) (ea_cons (ev_var rfl) ea_nil)) h2 (ss := [.val (tv rInt r1), .val (tv (rOpt rInt) due)]) (ks := []) ) rfl rfl)))
theorem ok__law_same (T : Txt fa fn K mg) : OkF P w K mg base "_law_same" ["actual", "due"] 2 (spT K XT F_law_same) := by
  obtain ⟨fd, F⟩ := T.c.def_ 34 rfl
  exact ⟨fd, fn__law_same T F, FunD.bindsN F fun _ _ _ _ _ _ us hl => match us, hl with | [_, _], _ => rfl, F.kp, T.glob 66 rfl⟩
end
abbrev st_DaySet__count_before : Stmt := topM 12 20
abbrev NN_DaySet__count_before : List Str := ["self", "day", "each", "rounds", "rest"]
theorem sc_DaySet__count_before : FnScope NN_DaySet__count_before ["self", "day"] (defScope st_DaySet__count_before) := ⟨rfl, rfl, rfl, by decide +kernel, rfl, by decide +kernel, by decide +kernel⟩
abbrev F_DaySet__count_before : FS (C_DaySet × Int) (Int) where
  ins := fun x => [.val (tv rI_DaySet x.1), .val (tv rInt x.2)]
  cells := fun x => []
  m := fun x => m_DaySet__count_before x.1 x.2
  out := fun x w => .rt (tv rInt w) []
section
variable {P : Program} {w : World} {K : PySem.W.Frag} {mg : Str → Option Value} {base : Heap}
set_option maxHeartbeats 4000000 in
theorem fn_DaySet__count_before {fd : FuncData} (T : Txt fa fn K mg) (F : FunD K d35.name d35.qual d35.params d35.body d35.scope (d35.dvs K) (d35.kws K) (He.fAd K d35.at_) fd) : FnOk P w K mg base CX0 1 (He.ma K (He.ga K "DaySet") "count_before") fd ["self", "day"] (spT K XT F_DaySet__count_before) := by
  have sc := sc_DaySet__count_before
  refine F.ok sc (sp_len fun _ => rfl) (fun cdv A outer s H vs Q E hr h => ?_)
  refine ⟨_, PSs.nox (pss_cons (ps_if (pt_cmpR op_le (pv 1) (pe_fld (pv 0) rfl) (nomark _)) (pss_cons (ps_ret (pe_m1 PySem.F.slot_str_count PySem.F.type_str_count mt_count (pe_slice sl_str (pe_fld (pv 0) rfl) po_none (po_some (pv 1))) pe_str)) pss_nil) pss_nil) (pss_cons (ps_asg (pe_callB call_divmodW (by rfl) (T.free 67) (by decide +kernel) (pa_cons (pe_op op_sub (pv 1) (pe_fld (pv 0) rfl)) (pa_cons (pe_fld (pv 0) rfl) pa_nil))) (pg_tup rfl (pgs_cons (pg_name (i := 3) sc.nd rfl (Or.inl rfl)) (pgs_cons (pg_name (i := 4) sc.nd rfl (Or.inl rfl)) pgs_nil)))) (pss_cons (ps_set (i := 2) sc.nd rfl (Or.inl rfl) (pe_m1 PySem.F.slot_str_count PySem.F.type_str_count mt_count (pe_fld (pv 0) rfl) pe_str)) (pss_cons (ps_ret (pe_op op_add (pe_op op_add (pe_m1 PySem.F.slot_str_count PySem.F.type_str_count mt_count (pe_fld (pv 0) rfl) pe_str) (pe_op op_mulX (pv 3) (pv 2))) (pe_m1 PySem.F.slot_str_count PySem.F.type_str_count mt_count (pe_slice sl_str (pe_fld (pv 0) rfl) po_none (po_some (pv 4))) pe_str))) pss_nil)))), ?_⟩
  refine sp_body0 h (fun _ _ => trivial) fun x => ?_
  obtain ⟨self, day⟩ := x
  show EvB K ⟨XT, fun _ _ _ _ => False⟩ 0 _ [some (.val (tv rI_DaySet self)), some (.val (tv rInt day)), none, none, none] [] (fun (w : Int) => (.rt (tv rInt w) [] : OS)) (m_DaySet__count_before self day)
  unfold m_DaySet__count_before
  exact (eb_ifr (et_test (ev_op (ev_var rfl) (ev_fldO (ev_as (s' := .val (oI_DaySet self)) (ev_var rfl) rfl) (T.cls 23 rfl) (T.noat 25 rfl) rfl rfl) rv_le)) (fun _ => eb_bind fun r1 h1 => (eb_ret (ev_countX (ev_slX (ev_fldO (ev_as (s' := .val (oI_DaySet self)) (ev_var rfl) rfl) (T.cls 23 rfl) (T.noat 27 rfl) rfl rfl) eo_none (eo_some (ev_var rfl)) h1) (ev_txt (l := [49]) (by decide +kernel))) rfl rfl))
(fun _ => (eb_bind fun r2 h2 => (eb_asgG (ev_cb2 (ev_op (ev_var rfl) (ev_fldO (ev_as (s' := .val (oI_DaySet self)) (ev_var rfl) rfl) (T.cls 23 rfl) (T.noat 25 rfl) rfl rfl) rv_sub) (ev_fldO (ev_as (s' := .val (oI_DaySet self)) (ev_var rfl) rfl) (T.cls 23 rfl) (T.noat 24 rfl) rfl rfl) (rc_divP h2)) eg_tup2
(eb_bind fun each3 h3 => (eb_asg (oeV h3 (ev_countX (ev_fldO (ev_as (s' := .val (oI_DaySet self)) (ev_var rfl) rfl) (T.cls 23 rfl) (T.noat 26 rfl) rfl rfl) (ev_txt (l := [49]) (by decide +kernel))))
(eb_bind fun r4 h4 => eb_bind fun r5 h5 => (eb_ret (ev_op (ev_op (ev_countX (ev_fldO (ev_as (s' := .val (oI_DaySet self)) (ev_var rfl) rfl) (T.cls 23 rfl) (T.noat 27 rfl) rfl rfl) (ev_txt (l := [49]) (by decide +kernel))) (ev_op (ev_var rfl) (ev_var rfl) (rv_mulP h4)) rv_add) (ev_countX (ev_slX (ev_fldO (ev_as (s' := .val (oI_DaySet self)) (ev_var rfl) rfl) (T.cls 23 rfl) (T.noat 26 rfl) rfl rfl) eo_none (eo_some (ev_var rfl)) h5) (ev_txt (l := [49]) (by decide +kernel))) rv_add) rfl rfl))))))))
theorem ok_DaySet__count_before (T : Txt fa fn K mg) : OkS1 P w K mg base CX0 (He.ma K (He.ga K "DaySet") "count_before") ["self", "day"] 1 (spT K XT F_DaySet__count_before) := by
  obtain ⟨fd, F⟩ := T.c.def_ 35 rfl
  exact ⟨fd, fn_DaySet__count_before T F, FunD.bindsN F fun _ _ _ _ _ _ us hl => match us, hl with | [_, _], _ => rfl⟩
end
abbrev st__law_count : Stmt := top 34
abbrev NN__law_count : List Str := ["one", "when", "settled", "rounds", "rest"]
theorem sc__law_count : FnScope NN__law_count ["one", "when"] (defScope st__law_count) := ⟨rfl, rfl, rfl, by decide +kernel, rfl, by decide +kernel, by decide +kernel⟩
abbrev F_law_count : FS (((List Nat) × (List Nat)) × Int) (Int) where
  ins := fun x => [.val (tv (rP2 rTxt rTxt) x.1), .val (tv rInt x.2)]
  cells := fun x => []
  m := fun x => m_law_count x.1 x.2
  out := fun x w => .rt (tv rInt w) []
section
variable {P : Program} {w : World} {K : PySem.W.Frag} {mg : Str → Option Value} {base : Heap}
set_option maxHeartbeats 4000000 in
theorem fn__law_count {fd : FuncData} (T : Txt fa fn K mg) (F : FunD K d36.name d36.qual d36.params d36.body d36.scope (d36.dvs K) (d36.kws K) (He.fAd K d36.at_) fd) : FnOk P w K mg base CX0 1 (He.ga K "_law_count") fd ["one", "when"] (spT K XT F_law_count) := by
  have sc := sc__law_count
  refine F.ok sc (sp_len fun _ => rfl) (fun cdv A outer s H vs Q E hr h => ?_)
  refine ⟨_, PSs.nox (pss_cons (ps_set (i := 2) sc.nd rfl (Or.inl rfl) (pe_callB call_len_str (by rfl) (T.free 1) (by decide +kernel) (pa_cons (pe_ix (kIxT (K := K)) (pv 0) pe_int (fun _ _ => rfl)) pa_nil))) (pss_cons (ps_if (pt_cmpR op_le (pv 1) (pv 2) (nomark _)) (pss_cons (ps_ret (pe_m1 PySem.F.slot_str_count PySem.F.type_str_count mt_count (pe_slice sl_str (pe_ix (kIxT (K := K)) (pv 0) pe_int (fun _ _ => rfl)) po_none (po_some (pv 1))) pe_str)) pss_nil) pss_nil) (pss_cons (ps_set (i := 3) sc.nd rfl (Or.inl rfl) (pe_op op_fdivW (pe_callTy call_int1 (by rfl) (T.free 0) (by decide +kernel) (pa_cons (pe_op op_sub (pv 1) (pv 2)) pa_nil)) (pe_callB call_len_str (by rfl) (T.free 1) (by decide +kernel) (pa_cons (pe_ix (kIxT (K := K)) (pv 0) pe_int (fun _ _ => rfl)) pa_nil)))) (pss_cons (ps_set (i := 4) sc.nd rfl (Or.inl rfl) (pe_op op_mod (pe_callTy call_int1 (by rfl) (T.free 0) (by decide +kernel) (pa_cons (pe_op op_sub (pv 1) (pv 2)) pa_nil)) (pe_callB call_len_str (by rfl) (T.free 1) (by decide +kernel) (pa_cons (pe_ix (kIxT (K := K)) (pv 0) pe_int (fun _ _ => rfl)) pa_nil)))) (pss_cons (ps_ret (pe_op op_add (pe_op op_add (pe_m1 PySem.F.slot_str_count PySem.F.type_str_count mt_count (pe_ix (kIxT (K := K)) (pv 0) pe_int (fun _ _ => rfl)) pe_str) (pe_op op_mulX (pv 3) (pe_m1 PySem.F.slot_str_count PySem.F.type_str_count mt_count (pe_ix (kIxT (K := K)) (pv 0) pe_int (fun _ _ => rfl)) pe_str))) (pe_m1 PySem.F.slot_str_count PySem.F.type_str_count mt_count (pe_slice sl_str (pe_ix (kIxT (K := K)) (pv 0) pe_int (fun _ _ => rfl)) po_none (po_some (pv 4))) pe_str))) pss_nil))))), ?_⟩
  refine sp_body0 h (fun _ _ => trivial) fun x => ?_
  obtain ⟨one, when⟩ := x
  show EvB K ⟨XT, fun _ _ _ _ => False⟩ 0 _ [some (.val (tv (rP2 rTxt rTxt) one)), some (.val (tv rInt when)), none, none, none] [] (fun (w : Int) => (.rt (tv rInt w) [] : OS)) (m_law_count one when)
  unfold m_law_count
  exact (eb_bind fun r1 h1 => eb_bind fun settled2 h2 => (eb_asg (oeV h2 (ev_cb1 (ev_op (ev_var rfl) ev_int (rv_ixT is_p2 rfl)) (rc_lenX h1)))
(eb_ifr (et_test (ev_op (ev_var rfl) (ev_var rfl) rv_le)) (fun _ => eb_bind fun r3 h3 => (eb_ret (ev_countX (ev_slX (ev_op (ev_var rfl) ev_int (rv_ixT is_p2 rfl)) eo_none (eo_some (ev_var rfl)) h3) (ev_txt (l := [49]) (by decide +kernel))) rfl rfl))
(fun _ => (eb_bind fun r4 h4 => eb_bind fun r5 h5 => (eb_asg (ev_op (ev_cb1 (ev_op (ev_var rfl) (ev_var rfl) rv_sub) rc_int) (ev_cb1 (ev_op (ev_var rfl) ev_int (rv_ixT is_p2 rfl)) (rc_lenX h4)) (rv_fdivP h5))
(eb_bind fun r6 h6 => eb_bind fun r7 h7 => (eb_asg (ev_op (ev_cb1 (ev_op (ev_var rfl) (ev_var rfl) rv_sub) rc_int) (ev_cb1 (ev_op (ev_var rfl) ev_int (rv_ixT is_p2 rfl)) (rc_lenX h6)) (rv_modP h7))
(eb_bind fun r8 h8 => eb_bind fun r9 h9 => (eb_ret (ev_op (ev_op (ev_countX (ev_op (ev_var rfl) ev_int (rv_ixT is_p2 rfl)) (ev_txt (l := [49]) (by decide +kernel))) (ev_op (ev_var rfl) (ev_countX (ev_op (ev_var rfl) ev_int (rv_ixT is_p2 rfl)) (ev_txt (l := [49]) (by decide +kernel))) (rv_mulP h8)) rv_add) (ev_countX (ev_slX (ev_op (ev_var rfl) ev_int (rv_ixT is_p2 rfl)) eo_none (eo_some (ev_var rfl)) h9) (ev_txt (l := [49]) (by decide +kernel))) rv_add) rfl rfl))))))))))
theorem ok__law_count (T : Txt fa fn K mg) : OkF P w K mg base "_law_count" ["one", "when"] 1 (spT K XT F_law_count) := by
  obtain ⟨fd, F⟩ := T.c.def_ 36 rfl
  exact ⟨fd, fn__law_count T F, FunD.bindsN F fun _ _ _ _ _ _ us hl => match us, hl with | [_, _], _ => rfl, F.kp, T.glob 69 rfl⟩
end
abbrev st__place_of : Stmt := top 19
abbrev NN__place_of : List Str := ["text", "index", "at", "_"]
theorem sc__place_of : FnScope NN__place_of ["text", "index"] (defScope st__place_of) := ⟨rfl, rfl, rfl, by decide +kernel, rfl, by decide +kernel, by decide +kernel⟩
abbrev F_place_of : FS ((List Nat) × Int) (Int) where
  ins := fun x => [.val (tv rTxt x.1), .val (tv rInt x.2)]
  cells := fun x => []
  m := fun x => m_place_of x.1 x.2
  out := fun x w => .rt (tv rInt w) []
section
variable {P : Program} {w : World} {K : PySem.W.Frag} {mg : Str → Option Value} {base : Heap}
set_option maxHeartbeats 4000000 in
theorem fn__place_of {fd : FuncData} (T : Txt fa fn K mg) (F : FunD K d37.name d37.qual d37.params d37.body d37.scope (d37.dvs K) (d37.kws K) (He.fAd K d37.at_) fd) : FnOk P w K mg base CX0 1 (He.ga K "_place_of") fd ["text", "index"] (spT K XT F_place_of) := by
  have sc := sc__place_of
  refine F.ok sc (sp_len fun _ => rfl) (fun cdv A outer s H vs Q E hr h => ?_)
  refine ⟨_, PSs.nox (pss_cons (ps_set (i := 2) sc.nd rfl (Or.inl rfl) (pe_m1 PySem.F.slot_str_find PySem.F.type_str_find mt_find (pv 0) pe_str)) (pss_cons (ps_for PassesOwn.never rfl (pi_range1 rfl (T.free 4) (pa_cons (pv 1) pa_nil)) (pg_name (i := 3) sc.nd rfl (Or.inl rfl)) (pss_cons (ps_set (i := 2) sc.nd rfl (Or.inl rfl) (pe_bm PySem.F.plainAttrs_str PySem.F.slot_str_find PySem.F.type_str_find mt_find3 (pv 0) (pa_cons pe_str (pa_cons (pe_op op_add (pv 2) pe_int) pa_nil)))) pss_nil)) (pss_cons (ps_ret (pv 2)) pss_nil))), ?_⟩
  refine sp_body0 h (fun _ _ => trivial) fun x => ?_
  obtain ⟨text, index⟩ := x
  show EvB K ⟨XT, fun _ _ _ _ => False⟩ 0 _ [some (.val (tv rTxt text)), some (.val (tv rInt index)), none, none] [] (fun (w : Int) => (.rt (tv rInt w) [] : OS)) (m_place_of text index)
  unfold m_place_of
  exact (eb_bind fun at1 h1 => (eb_asg (oeV h1 (ev_findX (ev_var rfl) (ev_txt (l := [49]) (by decide +kernel))))
(eb_bind fun r2 h2 => (eb_for (g := fun (s3 : Int) => [some (.val (tv rTxt text)), some (.val (tv rInt index)), some (.val (tv rInt s3)), none]) (mu := fun (s3 : Int) => []) (ei_rng1 (ea_cons (ev_var rfl) ea_nil) (rngP_ok h2).2) (fun _ => trivial) (.keep (.keep (.keep (.keep .nil)))) (fun _ => rfl) (fun _ _ => eg_name)
(fun s3 x4 => (eb_bind fun at5 h5 => (eb_asg (oeV h5 (ev_find3X (ev_var rfl) (ev_txt (l := [49]) (by decide +kernel)) (ev_op (ev_var rfl) ev_int rv_add)))
(eb_nil rfl (.keep (.keep (.keep (.drop .nil)))) rfl (Nat.le_of_ble_eq_true rfl) rfl))))
(fun s3 => (eb_ret (ev_var rfl) rfl rfl))))))
theorem ok__place_of (T : Txt fa fn K mg) : OkF P w K mg base "_place_of" ["text", "index"] 1 (spT K XT F_place_of) := by
  obtain ⟨fd, F⟩ := T.c.def_ 37 rfl
  exact ⟨fd, fn__place_of T F, FunD.bindsN F fun _ _ _ _ _ _ us hl => match us, hl with | [_, _], _ => rfl, F.kp, T.glob 70 rfl⟩
end
abbrev st_DaySet__nth : Stmt := topM 12 21
abbrev NN_DaySet__nth : List Str := ["self", "index", "early", "each", "rounds", "rest"]
theorem sc_DaySet__nth : FnScope NN_DaySet__nth ["self", "index"] (defScope st_DaySet__nth) := ⟨rfl, rfl, rfl, by decide +kernel, rfl, by decide +kernel, by decide +kernel⟩
abbrev F_DaySet__nth : FS (C_DaySet × Int) (Option Int) where
  ins := fun x => [.val (tv rI_DaySet x.1), .val (tv rInt x.2)]
  cells := fun x => []
  m := fun x => m_DaySet__nth x.1 x.2
  out := fun x w => .rt (tv (rOpt rInt) w) []
section
variable {P : Program} {w : World} {K : PySem.W.Frag} {mg : Str → Option Value} {base : Heap}
set_option maxHeartbeats 4000000 in
theorem fn_DaySet__nth {fd : FuncData} (T : Txt fa fn K mg) (F : FunD K d38.name d38.qual d38.params d38.body d38.scope (d38.dvs K) (d38.kws K) (He.fAd K d38.at_) fd) : FnOk P w K mg base CX0 2 (He.ma K (He.ga K "DaySet") "nth") fd ["self", "index"] (spT K XT F_DaySet__nth) := by
  have sc := sc_DaySet__nth
  obtain ⟨fd0, G0, b0, k0, g0⟩ := ok__place_of (P := P) (w := w) (base := base) T
  refine F.ok sc (sp_len fun _ => rfl) (fun cdv A outer s H vs Q E hr h => ?_)
  refine ⟨_, PSs.nox (pss_cons (ps_set (i := 2) sc.nd rfl (Or.inl rfl) (pe_m1 PySem.F.slot_str_count PySem.F.type_str_count mt_count (pe_fld (pv 0) rfl) pe_str)) (pss_cons (ps_if (pt_cmpR op_lt (pv 1) (pv 2) (nomark _)) (pss_cons (ps_ret (pe_call G0 (hr.mono (by decide)) rfl g0 k0 b0 .nil pass0 (pa_cons (pe_fld (pv 0) rfl) (pa_cons (pv 1) pa_nil)))) pss_nil) pss_nil) (pss_cons (ps_set (i := 3) sc.nd rfl (Or.inl rfl) (pe_m1 PySem.F.slot_str_count PySem.F.type_str_count mt_count (pe_fld (pv 0) rfl) pe_str)) (pss_cons (ps_if (pt_cmpR op_eq (pv 3) pe_int (nomark _)) (pss_cons (ps_ret pe_non) pss_nil) pss_nil) (pss_cons (ps_asg (pe_callB call_divmodW (by rfl) (T.free 67) (by decide +kernel) (pa_cons (pe_op op_sub (pv 1) (pv 2)) (pa_cons (pv 3) pa_nil))) (pg_tup rfl (pgs_cons (pg_name (i := 4) sc.nd rfl (Or.inl rfl)) (pgs_cons (pg_name (i := 5) sc.nd rfl (Or.inl rfl)) pgs_nil)))) (pss_cons (ps_ret (pe_op op_add (pe_op op_add (pe_fld (pv 0) rfl) (pe_op op_mulX (pv 4) (pe_fld (pv 0) rfl))) (pe_call G0 (hr.mono (by decide)) rfl g0 k0 b0 .nil pass0 (pa_cons (pe_fld (pv 0) rfl) (pa_cons (pv 5) pa_nil))))) pss_nil)))))), ?_⟩
  refine sp_body0 h (fun _ _ => trivial) fun x => ?_
  obtain ⟨self, index⟩ := x
  show EvB K ⟨XT, fun _ _ _ _ => False⟩ 0 _ [some (.val (tv rI_DaySet self)), some (.val (tv rInt index)), none, none, none, none] [] (fun (w : Option Int) => (.rt (tv (rOpt rInt) w) [] : OS)) (m_DaySet__nth self index)
  unfold m_DaySet__nth
  exact (eb_bind fun early1 h1 => (eb_asg (oeV h1 (ev_countX (ev_fldO (ev_as (s' := .val (oI_DaySet self)) (ev_var rfl) rfl) (T.cls 23 rfl) (T.noat 27 rfl) rfl rfl) (ev_txt (l := [49]) (by decide +kernel))))
(eb_ifr (et_test (ev_op (ev_var rfl) (ev_var rfl) rv_lt)) (fun _ => eb_bind fun r2 h2 => (eb_ret (ev_osome (ev_call (F := F_place_of) (x := (self.lead, index)) (ea_cons (ev_fldO (ev_as (s' := .val (oI_DaySet self)) (ev_var rfl) rfl) (T.cls 23 rfl) (T.noat 27 rfl) rfl rfl) (ea_cons (ev_var rfl) ea_nil)) h2 (ss := [.val (tv rTxt self.lead), .val (tv rInt index)]) (ks := []) )) rfl rfl))
(fun _ => (eb_bind fun each3 h3 => (eb_asg (oeV h3 (ev_countX (ev_fldO (ev_as (s' := .val (oI_DaySet self)) (ev_var rfl) rfl) (T.cls 23 rfl) (T.noat 26 rfl) rfl rfl) (ev_txt (l := [49]) (by decide +kernel))))
(eb_ifr (et_test (ev_op (ev_var rfl) ev_int rv_eqI)) (fun _ => (eb_ret (ev_onone ev_none) rfl rfl))
(fun _ => (eb_bind fun r4 h4 => (eb_asgG (ev_cb2 (ev_op (ev_var rfl) (ev_var rfl) rv_sub) (ev_var rfl) (rc_divP h4)) eg_tup2
(eb_bind fun r5 h5 => eb_bind fun r6 h6 => (eb_ret (ev_osome (ev_op (ev_op (ev_fldO (ev_as (s' := .val (oI_DaySet self)) (ev_var rfl) rfl) (T.cls 23 rfl) (T.noat 25 rfl) rfl rfl) (ev_op (ev_var rfl) (ev_fldO (ev_as (s' := .val (oI_DaySet self)) (ev_var rfl) rfl) (T.cls 23 rfl) (T.noat 24 rfl) rfl rfl) (rv_mulP h5)) rv_add) (ev_call (F := F_place_of) (x := (self.cycle, r4.2)) (ea_cons (ev_fldO (ev_as (s' := .val (oI_DaySet self)) (ev_var rfl) rfl) (T.cls 23 rfl) (T.noat 26 rfl) rfl rfl) (ea_cons (ev_var rfl) ea_nil)) h6 (ss := [.val (tv rTxt self.cycle), .val (tv rInt r4.2)]) (ks := []) ) rv_add)) rfl rfl))))))))))))
theorem ok_DaySet__nth (T : Txt fa fn K mg) : OkS1 P w K mg base CX0 (He.ma K (He.ga K "DaySet") "nth") ["self", "index"] 2 (spT K XT F_DaySet__nth) := by
  obtain ⟨fd, F⟩ := T.c.def_ 38 rfl
  exact ⟨fd, fn_DaySet__nth T F, FunD.bindsN F fun _ _ _ _ _ _ us hl => match us, hl with | [_, _], _ => rfl⟩
end
abbrev F_law_member_1 : FS (((List Nat) × (List Nat)) × (Option Int)) (Bool) where
  ins := fun x => [.val (tv (rP2 rTxt rTxt) x.1), .val (tv (rOpt rInt) x.2)]
  cells := fun x => []
  m := fun x => m_law_member_1 x.1 x.2
  out := fun x w => .rt (tv rBool w) []
section
variable {P : Program} {w : World} {K : PySem.W.Frag} {mg : Str → Option Value} {base : Heap}
set_option maxHeartbeats 4000000 in
theorem fn__law_member_1 {fd : FuncData} (T : Txt fa fn K mg) (F : FunD K d30.name d30.qual d30.params d30.body d30.scope (d30.dvs K) (d30.kws K) (He.fAd K d30.at_) fd) : FnOk P w K mg base CX0 1 (He.ga K "_law_member") fd ["one", "when"] (spT K XT F_law_member_1) := by
  have sc := sc__law_member
  refine F.ok sc (sp_len fun _ => rfl) (fun cdv A outer s H vs Q E hr h => ?_)
  refine ⟨_, PSs.nox (pss_cons (ps_if (pt_cmpR op_lt (pv 1) (pe_callB call_len_str (by rfl) (T.free 1) (by decide +kernel) (pa_cons (pe_ix (kIxT (K := K)) (pv 0) pe_int (fun _ _ => rfl)) pa_nil)) (nomark _)) (pss_cons (ps_ret (pe_cmpR op_eq (pe_ix ix_str (pe_ix (kIxT (K := K)) (pv 0) pe_int (fun _ _ => rfl)) (pv 1) (fun _ _ => rfl)) pe_str (nomark _))) pss_nil) pss_nil) (pss_cons (ps_ret (pe_cmpR op_eq (pe_ix ix_str (pe_ix (kIxT (K := K)) (pv 0) pe_int (fun _ _ => rfl)) (pe_op op_mod (pe_callTy call_int1 (by rfl) (T.free 0) (by decide +kernel) (pa_cons (pe_op op_sub (pv 1) (pe_callB call_len_str (by rfl) (T.free 1) (by decide +kernel) (pa_cons (pe_ix (kIxT (K := K)) (pv 0) pe_int (fun _ _ => rfl)) pa_nil))) pa_nil)) (pe_callB call_len_str (by rfl) (T.free 1) (by decide +kernel) (pa_cons (pe_ix (kIxT (K := K)) (pv 0) pe_int (fun _ _ => rfl)) pa_nil))) (fun _ _ => rfl)) pe_str (nomark _))) pss_nil)), ?_⟩
  refine sp_body0 h (fun _ _ => trivial) fun x => ?_
  obtain ⟨one, when⟩ := x
  show EvB K ⟨XT, fun _ _ _ _ => False⟩ 0 _ [some (.val (tv (rP2 rTxt rTxt) one)), some (.val (tv (rOpt rInt) when))] [] (fun (w : Bool) => (.rt (tv rBool w) [] : OS)) (m_law_member_1 one when)
  unfold m_law_member_1
  exact (eb_bind fun r1 h1 => eb_bind fun r2 h2 => (eb_ifr (et_test (ev_op (ev_oget (ev_var rfl) h2) (ev_cb1 (ev_op (ev_var rfl) ev_int (rv_ixT is_p2 rfl)) (rc_lenX h1)) rv_lt)) (fun _ => eb_bind fun r3 h3 => eb_bind fun r4 h4 => eb_bind fun r5 h5 => (eb_ret (ev_op (ev_op (ev_op (ev_var rfl) ev_int (rv_ixT is_p2 rfl)) (ev_oget (ev_var rfl) h3) (rv_ixX h4 h5)) (ev_txt (l := [49]) (by decide +kernel)) rv_eqX) rfl rfl))
(fun _ => eb_bind fun r6 h6 => eb_bind fun r7 h7 => eb_bind fun r8 h8 => eb_bind fun r9 h9 => eb_bind fun r10 h10 => eb_bind fun r11 h11 => (eb_ret (ev_op (ev_op (ev_op (ev_var rfl) ev_int (rv_ixT is_p2 rfl)) (ev_op (ev_cb1 (ev_op (ev_oget (ev_var rfl) h6) (ev_cb1 (ev_op (ev_var rfl) ev_int (rv_ixT is_p2 rfl)) (rc_lenX h7)) rv_sub) rc_int) (ev_cb1 (ev_op (ev_var rfl) ev_int (rv_ixT is_p2 rfl)) (rc_lenX h8)) (rv_modP h9)) (rv_ixX h10 h11)) (ev_txt (l := [49]) (by decide +kernel)) rv_eqX) rfl rfl))))
theorem ok__law_member_1 (T : Txt fa fn K mg) : OkF P w K mg base "_law_member" ["one", "when"] 1 (spT K XT F_law_member_1) := by
  obtain ⟨fd, F⟩ := T.c.def_ 30 rfl
  exact ⟨fd, fn__law_member_1 T F, FunD.bindsN F fun _ _ _ _ _ _ us hl => match us, hl with | [_, _], _ => rfl, F.kp, T.glob 62 rfl⟩
end
abbrev F_law_count_1 : FS (((List Nat) × (List Nat)) × (Option Int)) (Int) where
  ins := fun x => [.val (tv (rP2 rTxt rTxt) x.1), .val (tv (rOpt rInt) x.2)]
  cells := fun x => []
  m := fun x => m_law_count_1 x.1 x.2
  out := fun x w => .rt (tv rInt w) []
section
variable {P : Program} {w : World} {K : PySem.W.Frag} {mg : Str → Option Value} {base : Heap}
set_option maxHeartbeats 4000000 in
theorem fn__law_count_1 {fd : FuncData} (T : Txt fa fn K mg) (F : FunD K d36.name d36.qual d36.params d36.body d36.scope (d36.dvs K) (d36.kws K) (He.fAd K d36.at_) fd) : FnOk P w K mg base CX0 1 (He.ga K "_law_count") fd ["one", "when"] (spT K XT F_law_count_1) := by
  have sc := sc__law_count
  refine F.ok sc (sp_len fun _ => rfl) (fun cdv A outer s H vs Q E hr h => ?_)
  refine ⟨_, PSs.nox (pss_cons (ps_set (i := 2) sc.nd rfl (Or.inl rfl) (pe_callB call_len_str (by rfl) (T.free 1) (by decide +kernel) (pa_cons (pe_ix (kIxT (K := K)) (pv 0) pe_int (fun _ _ => rfl)) pa_nil))) (pss_cons (ps_if (pt_cmpR op_le (pv 1) (pv 2) (nomark _)) (pss_cons (ps_ret (pe_m1 PySem.F.slot_str_count PySem.F.type_str_count mt_count (pe_slice sl_str (pe_ix (kIxT (K := K)) (pv 0) pe_int (fun _ _ => rfl)) po_none (po_some (pv 1))) pe_str)) pss_nil) pss_nil) (pss_cons (ps_set (i := 3) sc.nd rfl (Or.inl rfl) (pe_op op_fdivW (pe_callTy call_int1 (by rfl) (T.free 0) (by decide +kernel) (pa_cons (pe_op op_sub (pv 1) (pv 2)) pa_nil)) (pe_callB call_len_str (by rfl) (T.free 1) (by decide +kernel) (pa_cons (pe_ix (kIxT (K := K)) (pv 0) pe_int (fun _ _ => rfl)) pa_nil)))) (pss_cons (ps_set (i := 4) sc.nd rfl (Or.inl rfl) (pe_op op_mod (pe_callTy call_int1 (by rfl) (T.free 0) (by decide +kernel) (pa_cons (pe_op op_sub (pv 1) (pv 2)) pa_nil)) (pe_callB call_len_str (by rfl) (T.free 1) (by decide +kernel) (pa_cons (pe_ix (kIxT (K := K)) (pv 0) pe_int (fun _ _ => rfl)) pa_nil)))) (pss_cons (ps_ret (pe_op op_add (pe_op op_add (pe_m1 PySem.F.slot_str_count PySem.F.type_str_count mt_count (pe_ix (kIxT (K := K)) (pv 0) pe_int (fun _ _ => rfl)) pe_str) (pe_op op_mulX (pv 3) (pe_m1 PySem.F.slot_str_count PySem.F.type_str_count mt_count (pe_ix (kIxT (K := K)) (pv 0) pe_int (fun _ _ => rfl)) pe_str))) (pe_m1 PySem.F.slot_str_count PySem.F.type_str_count mt_count (pe_slice sl_str (pe_ix (kIxT (K := K)) (pv 0) pe_int (fun _ _ => rfl)) po_none (po_some (pv 4))) pe_str))) pss_nil))))), ?_⟩
  refine sp_body0 h (fun _ _ => trivial) fun x => ?_
  obtain ⟨one, when⟩ := x
  show EvB K ⟨XT, fun _ _ _ _ => False⟩ 0 _ [some (.val (tv (rP2 rTxt rTxt) one)), some (.val (tv (rOpt rInt) when)), none, none, none] [] (fun (w : Int) => (.rt (tv rInt w) [] : OS)) (m_law_count_1 one when)
  unfold m_law_count_1
  exact (eb_bind fun r1 h1 => eb_bind fun settled2 h2 => (eb_asg (oeV h2 (ev_cb1 (ev_op (ev_var rfl) ev_int (rv_ixT is_p2 rfl)) (rc_lenX h1)))
(eb_bind fun r3 h3 => (eb_ifr (et_test (ev_op (ev_oget (ev_var rfl) h3) (ev_var rfl) rv_le)) (fun _ => eb_bind fun r4 h4 => eb_bind fun r5 h5 => (eb_ret (ev_countX (ev_slX (ev_op (ev_var rfl) ev_int (rv_ixT is_p2 rfl)) eo_none (eo_some (ev_oget (ev_var rfl) h5)) h4) (ev_txt (l := [49]) (by decide +kernel))) rfl rfl))
(fun _ => (eb_bind fun r6 h6 => eb_bind fun r7 h7 => eb_bind fun r8 h8 => (eb_asg (ev_op (ev_cb1 (ev_op (ev_oget (ev_var rfl) h6) (ev_var rfl) rv_sub) rc_int) (ev_cb1 (ev_op (ev_var rfl) ev_int (rv_ixT is_p2 rfl)) (rc_lenX h7)) (rv_fdivP h8))
(eb_bind fun r9 h9 => eb_bind fun r10 h10 => eb_bind fun r11 h11 => (eb_asg (ev_op (ev_cb1 (ev_op (ev_oget (ev_var rfl) h9) (ev_var rfl) rv_sub) rc_int) (ev_cb1 (ev_op (ev_var rfl) ev_int (rv_ixT is_p2 rfl)) (rc_lenX h10)) (rv_modP h11))
(eb_bind fun r12 h12 => eb_bind fun r13 h13 => (eb_ret (ev_op (ev_op (ev_countX (ev_op (ev_var rfl) ev_int (rv_ixT is_p2 rfl)) (ev_txt (l := [49]) (by decide +kernel))) (ev_op (ev_var rfl) (ev_countX (ev_op (ev_var rfl) ev_int (rv_ixT is_p2 rfl)) (ev_txt (l := [49]) (by decide +kernel))) (rv_mulP h12)) rv_add) (ev_countX (ev_slX (ev_op (ev_var rfl) ev_int (rv_ixT is_p2 rfl)) eo_none (eo_some (ev_var rfl)) h13) (ev_txt (l := [49]) (by decide +kernel))) rv_add) rfl rfl)))))))))))
theorem ok__law_count_1 (T : Txt fa fn K mg) : OkF P w K mg base "_law_count" ["one", "when"] 1 (spT K XT F_law_count_1) := by
  obtain ⟨fd, F⟩ := T.c.def_ 36 rfl
  exact ⟨fd, fn__law_count_1 T F, FunD.bindsN F fun _ _ _ _ _ _ us hl => match us, hl with | [_, _], _ => rfl, F.kp, T.glob 69 rfl⟩
end
abbrev st__law_nth_holds : Stmt := top 35
abbrev NN__law_nth_holds : List Str := ["one", "rank", "actual"]
theorem sc__law_nth_holds : FnScope NN__law_nth_holds ["one", "rank", "actual"] (defScope st__law_nth_holds) := ⟨rfl, rfl, rfl, by decide +kernel, rfl, by decide +kernel, by decide +kernel⟩
abbrev F_law_nth_holds : FS (((List Nat) × (List Nat)) × Int × (Option Int)) (Bool) where
  ins := fun x => [.val (tv (rP2 rTxt rTxt) x.1), .val (tv rInt x.2.1), .val (tv (rOpt rInt) x.2.2)]
  cells := fun x => []
  m := fun x => m_law_nth_holds x.1 x.2.1 x.2.2
  out := fun x w => .rt (tv rBool w) []
section
variable {P : Program} {w : World} {K : PySem.W.Frag} {mg : Str → Option Value} {base : Heap}
set_option maxHeartbeats 4000000 in
theorem fn__law_nth_holds {fd : FuncData} (T : Txt fa fn K mg) (F : FunD K d39.name d39.qual d39.params d39.body d39.scope (d39.dvs K) (d39.kws K) (He.fAd K d39.at_) fd) : FnOk P w K mg base CX0 2 (He.ga K "_law_nth_holds") fd ["one", "rank", "actual"] (spT K XT F_law_nth_holds) := by
  have sc := sc__law_nth_holds
  obtain ⟨fd0, G0, b0, k0, g0⟩ := ok__law_member_1 (P := P) (w := w) (base := base) T
  obtain ⟨fd1, G1, b1, k1, g1⟩ := ok__law_count_1 (P := P) (w := w) (base := base) T
  refine F.ok sc (sp_len fun _ => rfl) (fun cdv A outer s H vs Q E hr h => ?_)
  refine ⟨_, PSs.nox (pss_cons (ps_if (PW.pt (pw_and (pt_cmpR op_notIn_sign pe_str (pe_ix (kIxT (K := K)) (pv 0) pe_int (fun _ _ => rfl)) (by rfl)) (pw_and1 (pt_cmpR op_ge (pv 1) (pe_m1 PySem.F.slot_str_count PySem.F.type_str_count mt_count (pe_ix (kIxT (K := K)) (pv 0) pe_int (fun _ _ => rfl)) pe_str) (nomark _))))) (pss_cons (ps_ret (pe_cmpR op_isN1 (pv 2) pe_non (nomark _))) pss_nil) pss_nil) (pss_cons (ps_if (PW.pt (pw_or (pt_not (pt_val (pe_callB (kIsi (K := K)) (by rfl) (T.free 40) (by decide +kernel) (pa_cons (pv 2) (pa_cons (pe_bltn (v := .ty "int") (by rfl) (T.free 0) (by decide +kernel) rfl) pa_nil))))) (pw_or (pt_val (pe_callB (kIsi (K := K)) (by rfl) (T.free 40) (by decide +kernel) (pa_cons (pv 2) (pa_cons (pe_bltn (v := .ty "bool") (by rfl) (T.free 41) (by decide +kernel) rfl) pa_nil)))) (pw_or1 (pt_cmpR op_lt (pv 2) pe_int (nomark _)))))) (pss_cons (ps_ret pe_bl) pss_nil) pss_nil) (pss_cons (ps_ret (pe_and (pe_call G0 (hr.mono (by decide)) rfl g0 k0 b0 .nil pass0 (pa_cons (pv 0) (pa_cons (pv 2) pa_nil))) (pe_one (pe_cmpR op_eq (pe_call G1 (hr.mono (by decide)) rfl g1 k1 b1 .nil pass0 (pa_cons (pv 0) (pa_cons (pv 2) pa_nil))) (pv 1) (nomark _))))) pss_nil))), ?_⟩
  refine sp_body0 h (fun _ _ => trivial) fun x => ?_
  obtain ⟨one, rank, actual⟩ := x
  show EvB K ⟨XT, fun _ _ _ _ => False⟩ 0 _ [some (.val (tv (rP2 rTxt rTxt) one)), some (.val (tv rInt rank)), some (.val (tv (rOpt rInt) actual))] [] (fun (w : Bool) => (.rt (tv rBool w) [] : OS)) (m_law_nth_holds one rank actual)
  unfold m_law_nth_holds
  exact (eb_ifr (et_and0 (et_test (ev_op (ev_txt (l := [49]) (by decide +kernel)) (ev_op (ev_var rfl) ev_int (rv_ixT is_p2 rfl)) rv_ninX1)) (et_test (ev_op (ev_var rfl) (ev_countX (ev_op (ev_var rfl) ev_int (rv_ixT is_p2 rfl)) (ev_txt (l := [49]) (by decide +kernel))) rv_ge))) (fun _ => (eb_ret (ev_op (ev_var rfl) ev_none (rv_isN non_int)) rfl rfl))
(fun _ => (eb_bind fun r4 h4 => (eb_ifr (et_orM (et_not (et_B (ev_cb2 (s2 := .val (rTy "int")) (ev_var rfl) (ev_c fun _ _ => rfl) (rc_isiO ty_int (by decide +kernel) (by decide +kernel))))) h4 (fun _ e5 => bo e5 fun r2 h2 e5 => oeT e5 (et_orM (et_B (ev_cb2 (s2 := .val (rTy "bool")) (ev_var rfl) (ev_c fun _ _ => rfl) (rc_isiO ty_int (by decide +kernel) (by decide +kernel)))) h2 (fun _ e3 => bo e3 fun r1 h1 e3 => oeT e3 (et_test (ev_op (ev_oget (ev_var rfl) h1) ev_int rv_lt)))))) (fun _ => (eb_ret ev_bool rfl rfl))
(fun _ => eb_bind fun r6 h6 => eb_bind fun r8 h8 => (eb_ret (ev_andM (ev_call (F := F_law_member_1) (x := (one, actual)) (ea_cons (ev_var rfl) (ea_cons (ev_var rfl) ea_nil)) h6 (ss := [.val (tv (rP2 rTxt rTxt) one), .val (tv (rOpt rInt) actual)]) (ks := []) ) h8 (fun _ e9 => bo e9 fun r7 h7 e9 => oeV e9 (ev_op (ev_call (F := F_law_count_1) (x := (one, actual)) (ea_cons (ev_var rfl) (ea_cons (ev_var rfl) ea_nil)) h7 (ss := [.val (tv (rP2 rTxt rTxt) one), .val (tv (rOpt rInt) actual)]) (ks := []) ) (ev_var rfl) rv_eqI))) rfl rfl))))))
theorem ok__law_nth_holds (T : Txt fa fn K mg) : OkF P w K mg base "_law_nth_holds" ["one", "rank", "actual"] 2 (spT K XT F_law_nth_holds) := by
  obtain ⟨fd, F⟩ := T.c.def_ 39 rfl
  exact ⟨fd, fn__law_nth_holds T F, FunD.bindsN F fun _ _ _ _ _ _ us hl => match us, hl with | [_, _, _], _ => rfl, F.kp, T.glob 72 rfl⟩
end
abbrev st__law_day_holds : Stmt := top 36
abbrev NN__law_day_holds : List Str := ["days", "one", "when", "rank"]
theorem sc__law_day_holds : FnScope NN__law_day_holds ["days", "one", "when", "rank"] (defScope st__law_day_holds) := ⟨rfl, rfl, rfl, by decide +kernel, rfl, by decide +kernel, by decide +kernel⟩
abbrev F_law_day_holds : FS (C_DaySet × ((List Nat) × (List Nat)) × Int × Int) (Bool) where
  ins := fun x => [.val (tv rI_DaySet x.1), .val (tv (rP2 rTxt rTxt) x.2.1), .val (tv rInt x.2.2.1), .val (tv rInt x.2.2.2)]
  cells := fun x => []
  m := fun x => m_law_day_holds x.1 x.2.1 x.2.2.1 x.2.2.2
  out := fun x w => .rt (tv rBool w) []
section
variable {P : Program} {w : World} {K : PySem.W.Frag} {mg : Str → Option Value} {base : Heap}
set_option maxHeartbeats 4000000 in
theorem fn__law_day_holds {fd : FuncData} (T : Txt fa fn K mg) (F : FunD K d40.name d40.qual d40.params d40.body d40.scope (d40.dvs K) (d40.kws K) (He.fAd K d40.at_) fd) : FnOk P w K mg base CX0 3 (He.ga K "_law_day_holds") fd ["days", "one", "when", "rank"] (spT K XT F_law_day_holds) := by
  have sc := sc__law_day_holds
  obtain ⟨fd0, G0, b0⟩ := ok_DaySet____contains__ (P := P) (w := w) (base := base) T
  obtain ⟨fd1, G1, b1, k1, g1⟩ := ok__law_member (P := P) (w := w) (base := base) T
  obtain ⟨fd2, G2, b2, k2, g2⟩ := ok__law_truth (P := P) (w := w) (base := base) T
  obtain ⟨fd3, G3, b3⟩ := ok_DaySet__next_from (P := P) (w := w) (base := base) T
  obtain ⟨fd4, G4, b4, k4, g4⟩ := ok__law_next (P := P) (w := w) (base := base) T
  obtain ⟨fd5, G5, b5, k5, g5⟩ := ok__law_same (P := P) (w := w) (base := base) T
  obtain ⟨fd6, G6, b6⟩ := ok_DaySet__count_before (P := P) (w := w) (base := base) T
  obtain ⟨fd7, G7, b7, k7, g7⟩ := ok__law_count (P := P) (w := w) (base := base) T
  obtain ⟨fd8, G8, b8, k8, g8⟩ := ok__law_integer (P := P) (w := w) (base := base) T
  obtain ⟨fd9, G9, b9⟩ := ok_DaySet__nth (P := P) (w := w) (base := base) T
  obtain ⟨fd10, G10, b10, k10, g10⟩ := ok__law_nth_holds (P := P) (w := w) (base := base) T
  refine F.ok sc (sp_len fun _ => rfl) (fun cdv A outer s H vs Q E hr h => ?_)
  refine ⟨_, PSs.nox (pss_cons (ps_if (pt_not (pt_val (pe_call G2 (hr.mono (by decide)) rfl g2 k2 b2 .nil pass0 (pa_cons (pe_cmpR (op_inO (T.meth 61 rfl) G0 (hr.mono (by decide)) b0 pass0) (pv 2) (pv 0) (by rfl)) (pa_cons (pe_call G1 (hr.mono (by decide)) rfl g1 k1 b1 .nil pass0 (pa_cons (pv 1) (pa_cons (pv 2) pa_nil))) pa_nil))))) (pss_cons (ps_ret pe_bl) pss_nil) pss_nil) (pss_cons (ps_if (pt_not (pt_val (pe_call G5 (hr.mono (by decide)) rfl g5 k5 b5 .nil pass0 (pa_cons (pe_methS (pl := _) (pv 0) (T.cls 23 rfl) (T.meth 64 rfl) G3 (hr.mono (by decide)) b3 (fun _ => pass0A (E := fun _ _ _ => False)) (pa_cons (pv 2) pa_nil)) (pa_cons (pe_call G4 (hr.mono (by decide)) rfl g4 k4 b4 .nil pass0 (pa_cons (pv 1) (pa_cons (pv 2) pa_nil))) pa_nil))))) (pss_cons (ps_ret pe_bl) pss_nil) pss_nil) (pss_cons (ps_if (pt_not (pt_val (pe_call G8 (hr.mono (by decide)) rfl g8 k8 b8 .nil pass0 (pa_cons (pe_methS (pl := _) (pv 0) (T.cls 23 rfl) (T.meth 68 rfl) G6 (hr.mono (by decide)) b6 (fun _ => pass0A (E := fun _ _ _ => False)) (pa_cons (pv 2) pa_nil)) (pa_cons (pe_call G7 (hr.mono (by decide)) rfl g7 k7 b7 .nil pass0 (pa_cons (pv 1) (pa_cons (pv 2) pa_nil))) pa_nil))))) (pss_cons (ps_ret pe_bl) pss_nil) pss_nil) (pss_cons (ps_ret (pe_call G10 (hr.mono (by decide)) rfl g10 k10 b10 .nil pass0 (pa_cons (pv 1) (pa_cons (pv 3) (pa_cons (pe_methS (pl := _) (pv 0) (T.cls 23 rfl) (T.meth 71 rfl) G9 (hr.mono (by decide)) b9 (fun _ => pass0A (E := fun _ _ _ => False)) (pa_cons (pv 3) pa_nil)) pa_nil))))) pss_nil)))), ?_⟩
  refine sp_body0 h (fun _ _ => trivial) fun x => ?_
  obtain ⟨days, one, when, rank⟩ := x
  show EvB K ⟨XT, fun _ _ _ _ => False⟩ 0 _ [some (.val (tv rI_DaySet days)), some (.val (tv (rP2 rTxt rTxt) one)), some (.val (tv rInt when)), some (.val (tv rInt rank))] [] (fun (w : Bool) => (.rt (tv rBool w) [] : OS)) (m_law_day_holds days one when rank)
  unfold m_law_day_holds
  exact (eb_bind fun r1 h1 => eb_bind fun r2 h2 => eb_bind fun r3 h3 => (eb_ifr (et_not (et_B (ev_call (F := F_law_truth) (x := (r1, r2)) (ea_cons (ev_op (ev_var rfl) (ev_as (s' := .val (oI_DaySet days)) (ev_var rfl) rfl) (rv_inO (F := F_DaySet____contains__) (x := (days, when)) (is_insO (m := "__contains__") rfl) h1 )) (ea_cons (ev_call (F := F_law_member) (x := (one, when)) (ea_cons (ev_var rfl) (ea_cons (ev_var rfl) ea_nil)) h2 (ss := [.val (tv (rP2 rTxt rTxt) one), .val (tv rInt when)]) (ks := []) ) ea_nil)) h3 (ss := [.val (tv rBool r1), .val (tv rBool r2)]) (ks := []) ))) (fun _ => (eb_ret ev_bool rfl rfl))
(fun _ => (eb_bind fun r4 h4 => eb_bind fun r5 h5 => eb_bind fun r6 h6 => (eb_ifr (et_not (et_B (ev_call (F := F_law_same) (x := (r4, r5)) (ea_cons (ev_meth (F := F_DaySet__next_from) (x := (days, when)) (ev_as (s' := .val (oI_DaySet days)) (ev_var rfl) rfl) (is_insO (m := "next_from") rfl) (ea_cons (ev_var rfl) ea_nil) h4 (ss := [.val (tv rInt when)]) (ks := []) (ps := []) ) (ea_cons (ev_call (F := F_law_next) (x := (one, when)) (ea_cons (ev_var rfl) (ea_cons (ev_var rfl) ea_nil)) h5 (ss := [.val (tv (rP2 rTxt rTxt) one), .val (tv rInt when)]) (ks := []) ) ea_nil)) h6 (ss := [.val (tv (rOpt rInt) r4), .val (tv (rOpt rInt) r5)]) (ks := []) ))) (fun _ => (eb_ret ev_bool rfl rfl))
(fun _ => (eb_bind fun r7 h7 => eb_bind fun r8 h8 => eb_bind fun r9 h9 => (eb_ifr (et_not (et_B (ev_call (F := F_law_integer) (x := (r7, r8)) (ea_cons (ev_meth (F := F_DaySet__count_before) (x := (days, when)) (ev_as (s' := .val (oI_DaySet days)) (ev_var rfl) rfl) (is_insO (m := "count_before") rfl) (ea_cons (ev_var rfl) ea_nil) h7 (ss := [.val (tv rInt when)]) (ks := []) (ps := []) ) (ea_cons (ev_call (F := F_law_count) (x := (one, when)) (ea_cons (ev_var rfl) (ea_cons (ev_var rfl) ea_nil)) h8 (ss := [.val (tv (rP2 rTxt rTxt) one), .val (tv rInt when)]) (ks := []) ) ea_nil)) h9 (ss := [.val (tv rInt r7), .val (tv rInt r8)]) (ks := []) ))) (fun _ => (eb_ret ev_bool rfl rfl))
(fun _ => eb_bind fun r10 h10 => eb_bind fun r11 h11 => (eb_ret (ev_call (F := F_law_nth_holds) (x := (one, rank, r10)) (ea_cons (ev_var rfl) (ea_cons (ev_var rfl) (ea_cons (ev_meth (F := F_DaySet__nth) (x := (days, rank)) (ev_as (s' := .val (oI_DaySet days)) (ev_var rfl) rfl) (is_insO (m := "nth") rfl) (ea_cons (ev_var rfl) ea_nil) h10 (ss := [.val (tv rInt rank)]) (ks := []) (ps := []) ) ea_nil))) h11 (ss := [.val (tv (rP2 rTxt rTxt) one), .val (tv rInt rank), .val (tv (rOpt rInt) r10)]) (ks := []) ) rfl rfl))))))))))
theorem ok__law_day_holds (T : Txt fa fn K mg) : OkF P w K mg base "_law_day_holds" ["days", "one", "when", "rank"] 3 (spT K XT F_law_day_holds) := by
  obtain ⟨fd, F⟩ := T.c.def_ 40 rfl
  exact ⟨fd, fn__law_day_holds T F, FunD.bindsN F fun _ _ _ _ _ _ us hl => match us, hl with | [_, _, _, _], _ => rfl, F.kp, T.glob 73 rfl⟩
end
abbrev st__law_named_holds : Stmt := top 37
abbrev NN__law_named_holds : List Str := ["days", "one", "when", "rank"]
theorem sc__law_named_holds : FnScope NN__law_named_holds ["days", "one", "when", "rank"] (defScope st__law_named_holds) := ⟨rfl, rfl, rfl, by decide +kernel, rfl, by decide +kernel, by decide +kernel⟩
abbrev F_law_named_holds : FS (C_DaySet × ((List Nat) × (List Nat)) × Int × Int) (Bool) where
  ins := fun x => [.val (tv rI_DaySet x.1), .val (tv (rP2 rTxt rTxt) x.2.1), .val (tv rInt x.2.2.1), .val (tv rInt x.2.2.2)]
  cells := fun x => []
  m := fun x => m_law_named_holds x.1 x.2.1 x.2.2.1 x.2.2.2
  out := fun x w => .rt (tv rBool w) []
section
variable {P : Program} {w : World} {K : PySem.W.Frag} {mg : Str → Option Value} {base : Heap}
set_option maxHeartbeats 4000000 in
theorem fn__law_named_holds {fd : FuncData} (T : Txt fa fn K mg) (F : FunD K d41.name d41.qual d41.params d41.body d41.scope (d41.dvs K) (d41.kws K) (He.fAd K d41.at_) fd) : FnOk P w K mg base CX0 3 (He.ga K "_law_named_holds") fd ["days", "one", "when", "rank"] (spT K XT F_law_named_holds) := by
  have sc := sc__law_named_holds
  obtain ⟨fd0, F0⟩ := T.c.def_ 32 rfl
  have G0 := (fn_DaySet__next_from (P := P) (w := w) (base := base) T F0)
  have b0 := FunD.bindsN (ps := ["self", "day"]) F0 fun _ _ _ _ _ _ us hl => match us, hl with | [_, _], _ => rfl
  obtain ⟨fd1, G1, b1, k1, g1⟩ := ok__law_next (P := P) (w := w) (base := base) T
  obtain ⟨fd2, G2, b2, k2, g2⟩ := ok__law_same (P := P) (w := w) (base := base) T
  obtain ⟨fd3, F3⟩ := T.c.def_ 35 rfl
  have G3 := (fn_DaySet__count_before (P := P) (w := w) (base := base) T F3)
  have b3 := FunD.bindsN (ps := ["self", "day"]) F3 fun _ _ _ _ _ _ us hl => match us, hl with | [_, _], _ => rfl
  obtain ⟨fd4, G4, b4, k4, g4⟩ := ok__law_count (P := P) (w := w) (base := base) T
  obtain ⟨fd5, G5, b5, k5, g5⟩ := ok__law_integer (P := P) (w := w) (base := base) T
  obtain ⟨fd6, F6⟩ := T.c.def_ 38 rfl
  have G6 := (fn_DaySet__nth (P := P) (w := w) (base := base) T F6)
  have b6 := FunD.bindsN (ps := ["self", "index"]) F6 fun _ _ _ _ _ _ us hl => match us, hl with | [_, _], _ => rfl
  obtain ⟨fd7, G7, b7, k7, g7⟩ := ok__law_nth_holds (P := P) (w := w) (base := base) T
  have kb0 := kbnN (ps := ["self", "day"]) F0 1 ["day"] fun _ _ _ _ _ _ us ws l1 l2 => match us, ws, l1, l2 with | [_], [_], _, _ => rfl
  have kb1 := kbnN (ps := ["self", "day"]) F3 1 ["day"] fun _ _ _ _ _ _ us ws l1 l2 => match us, ws, l1, l2 with | [_], [_], _, _ => rfl
  have kb2 := kbnN (ps := ["self", "index"]) F6 1 ["index"] fun _ _ _ _ _ _ us ws l1 l2 => match us, ws, l1, l2 with | [_], [_], _, _ => rfl
  refine F.ok sc (sp_len fun _ => rfl) (fun cdv A outer s H vs Q E hr h => ?_)
  refine ⟨_, PSs.nox (pss_cons (ps_if (pt_not (pt_val (pe_call G2 (hr.mono (by decide)) rfl g2 k2 b2 .nil pass0 (pa_cons (pe_methK0 (pl := _) (gV' := fun vs zs => vs ++ zs) (pv 0) (T.cls 23 rfl) (T.meth 64 rfl) G0 (hr.mono (by decide)) kb0 (fun _ => pass0A (E := fun _ _ _ => False)) (pk_cons (pv 2) pk_nil) (fun _ _ => rfl)) (pa_cons (pe_call G1 (hr.mono (by decide)) rfl g1 k1 b1 .nil pass0 (pa_cons (pv 1) (pa_cons (pv 2) pa_nil))) pa_nil))))) (pss_cons (ps_ret pe_bl) pss_nil) pss_nil) (pss_cons (ps_if (pt_not (pt_val (pe_call G5 (hr.mono (by decide)) rfl g5 k5 b5 .nil pass0 (pa_cons (pe_methK0 (pl := _) (gV' := fun vs zs => vs ++ zs) (pv 0) (T.cls 23 rfl) (T.meth 68 rfl) G3 (hr.mono (by decide)) kb1 (fun _ => pass0A (E := fun _ _ _ => False)) (pk_cons (pv 2) pk_nil) (fun _ _ => rfl)) (pa_cons (pe_call G4 (hr.mono (by decide)) rfl g4 k4 b4 .nil pass0 (pa_cons (pv 1) (pa_cons (pv 2) pa_nil))) pa_nil))))) (pss_cons (ps_ret pe_bl) pss_nil) pss_nil) (pss_cons (ps_ret (pe_call G7 (hr.mono (by decide)) rfl g7 k7 b7 .nil pass0 (pa_cons (pv 1) (pa_cons (pv 3) (pa_cons (pe_methK0 (pl := _) (gV' := fun vs zs => vs ++ zs) (pv 0) (T.cls 23 rfl) (T.meth 71 rfl) G6 (hr.mono (by decide)) kb2 (fun _ => pass0A (E := fun _ _ _ => False)) (pk_cons (pv 3) pk_nil) (fun _ _ => rfl)) pa_nil))))) pss_nil))), ?_⟩
  refine sp_body0 h (fun _ _ => trivial) fun x => ?_
  obtain ⟨days, one, when, rank⟩ := x
  show EvB K ⟨XT, fun _ _ _ _ => False⟩ 0 _ [some (.val (tv rI_DaySet days)), some (.val (tv (rP2 rTxt rTxt) one)), some (.val (tv rInt when)), some (.val (tv rInt rank))] [] (fun (w : Bool) => (.rt (tv rBool w) [] : OS)) (m_law_named_holds days one when rank)
  unfold m_law_named_holds
  exact (eb_bind fun r1 h1 => eb_bind fun r2 h2 => eb_bind fun r3 h3 => (eb_ifr (et_not (et_B (ev_call (F := F_law_same) (x := (r1, r2)) (ea_cons (ev_meth (F := F_DaySet__next_from) (x := (days, when)) (ev_as (s' := .val (oI_DaySet days)) (ev_var rfl) rfl) (is_insO (m := "next_from") rfl) (ea_kw ea_nil (ea_cons (ev_var rfl) ea_nil) (fun S ls vs zs a b => Paired.app a b)) h1 (ss := [.val (tv rInt when)]) (ks := []) (ps := []) ) (ea_cons (ev_call (F := F_law_next) (x := (one, when)) (ea_cons (ev_var rfl) (ea_cons (ev_var rfl) ea_nil)) h2 (ss := [.val (tv (rP2 rTxt rTxt) one), .val (tv rInt when)]) (ks := []) ) ea_nil)) h3 (ss := [.val (tv (rOpt rInt) r1), .val (tv (rOpt rInt) r2)]) (ks := []) ))) (fun _ => (eb_ret ev_bool rfl rfl))
(fun _ => (eb_bind fun r4 h4 => eb_bind fun r5 h5 => eb_bind fun r6 h6 => (eb_ifr (et_not (et_B (ev_call (F := F_law_integer) (x := (r4, r5)) (ea_cons (ev_meth (F := F_DaySet__count_before) (x := (days, when)) (ev_as (s' := .val (oI_DaySet days)) (ev_var rfl) rfl) (is_insO (m := "count_before") rfl) (ea_kw ea_nil (ea_cons (ev_var rfl) ea_nil) (fun S ls vs zs a b => Paired.app a b)) h4 (ss := [.val (tv rInt when)]) (ks := []) (ps := []) ) (ea_cons (ev_call (F := F_law_count) (x := (one, when)) (ea_cons (ev_var rfl) (ea_cons (ev_var rfl) ea_nil)) h5 (ss := [.val (tv (rP2 rTxt rTxt) one), .val (tv rInt when)]) (ks := []) ) ea_nil)) h6 (ss := [.val (tv rInt r4), .val (tv rInt r5)]) (ks := []) ))) (fun _ => (eb_ret ev_bool rfl rfl))
(fun _ => eb_bind fun r7 h7 => eb_bind fun r8 h8 => (eb_ret (ev_call (F := F_law_nth_holds) (x := (one, rank, r7)) (ea_cons (ev_var rfl) (ea_cons (ev_var rfl) (ea_cons (ev_meth (F := F_DaySet__nth) (x := (days, rank)) (ev_as (s' := .val (oI_DaySet days)) (ev_var rfl) rfl) (is_insO (m := "nth") rfl) (ea_kw ea_nil (ea_cons (ev_var rfl) ea_nil) (fun S ls vs zs a b => Paired.app a b)) h7 (ss := [.val (tv rInt rank)]) (ks := []) (ps := []) ) ea_nil))) h8 (ss := [.val (tv (rP2 rTxt rTxt) one), .val (tv rInt rank), .val (tv (rOpt rInt) r7)]) (ks := []) ) rfl rfl)))))))
theorem ok__law_named_holds (T : Txt fa fn K mg) : OkF P w K mg base "_law_named_holds" ["days", "one", "when", "rank"] 3 (spT K XT F_law_named_holds) := by
  obtain ⟨fd, F⟩ := T.c.def_ 41 rfl
  exact ⟨fd, fn__law_named_holds T F, FunD.bindsN F fun _ _ _ _ _ _ us hl => match us, hl with | [_, _, _, _], _ => rfl, F.kp, T.glob 74 rfl⟩
end
abbrev st_DaySet____bool__ : Stmt := topM 12 8
abbrev NN_DaySet____bool__ : List Str := ["self"]
theorem sc_DaySet____bool__ : FnScope NN_DaySet____bool__ ["self"] (defScope st_DaySet____bool__) := ⟨rfl, rfl, rfl, by decide +kernel, rfl, by decide +kernel, by decide +kernel⟩
abbrev F_DaySet____bool__ : FS (C_DaySet) (Bool) where
  ins := fun x => [.val (tv rI_DaySet x)]
  cells := fun x => []
  m := fun x => m_DaySet____bool__ x
  out := fun x w => .rt (tv rBool w) []
section
variable {P : Program} {w : World} {K : PySem.W.Frag} {mg : Str → Option Value} {base : Heap}
set_option maxHeartbeats 4000000 in
theorem fn_DaySet____bool__ {fd : FuncData} (T : Txt fa fn K mg) (F : FunD K d42.name d42.qual d42.params d42.body d42.scope (d42.dvs K) (d42.kws K) (He.fAd K d42.at_) fd) : FnOk P w K mg base CX0 1 (He.ma K (He.ga K "DaySet") "__bool__") fd ["self"] (spT K XT F_DaySet____bool__) := by
  have sc := sc_DaySet____bool__
  refine F.ok sc (sp_len fun _ => rfl) (fun cdv A outer s H vs Q E hr h => ?_)
  refine ⟨_, PSs.nox (pss_cons (ps_ret (pe_or (pe_cmpR op_in_sign pe_str (pe_fld (pv 0) rfl) (by rfl)) (pe_one (pe_cmpR op_in_sign pe_str (pe_fld (pv 0) rfl) (by rfl))))) pss_nil), ?_⟩
  refine sp_body0 h (fun _ _ => trivial) fun self => ?_
  show EvB K ⟨XT, fun _ _ _ _ => False⟩ 0 _ [some (.val (tv rI_DaySet self))] [] (fun (w : Bool) => (.rt (tv rBool w) [] : OS)) (m_DaySet____bool__ self)
  unfold m_DaySet____bool__
  exact (eb_ret (ev_or0 (ev_op (ev_txt (l := [49]) (by decide +kernel)) (ev_fldO (ev_as (s' := .val (oI_DaySet self)) (ev_var rfl) rfl) (T.cls 23 rfl) (T.noat 27 rfl) rfl rfl) rv_inX1) (ev_op (ev_txt (l := [49]) (by decide +kernel)) (ev_fldO (ev_as (s' := .val (oI_DaySet self)) (ev_var rfl) rfl) (T.cls 23 rfl) (T.noat 26 rfl) rfl rfl) rv_inX1)) rfl rfl)
theorem ok_DaySet____bool__ (T : Txt fa fn K mg) : OkS1 P w K mg base CX0 (He.ma K (He.ga K "DaySet") "__bool__") ["self"] 1 (spT K XT F_DaySet____bool__) := by
  obtain ⟨fd, F⟩ := T.c.def_ 42 rfl
  exact ⟨fd, fn_DaySet____bool__ T F, FunD.bindsN F fun _ _ _ _ _ _ us hl => match us, hl with | [_], _ => rfl⟩
end
abbrev st_DaySet__first_gap : Stmt := topM 12 22
abbrev NN_DaySet__first_gap : List Str := ["self", "at"]
theorem sc_DaySet__first_gap : FnScope NN_DaySet__first_gap ["self"] (defScope st_DaySet__first_gap) := ⟨rfl, rfl, rfl, by decide +kernel, rfl, by decide +kernel, by decide +kernel⟩
abbrev F_DaySet__first_gap : FS (C_DaySet) (Option Int) where
  ins := fun x => [.val (tv rI_DaySet x)]
  cells := fun x => []
  m := fun x => m_DaySet__first_gap x
  out := fun x w => .rt (tv (rOpt rInt) w) []
section
variable {P : Program} {w : World} {K : PySem.W.Frag} {mg : Str → Option Value} {base : Heap}
set_option maxHeartbeats 4000000 in
theorem fn_DaySet__first_gap {fd : FuncData} (T : Txt fa fn K mg) (F : FunD K d43.name d43.qual d43.params d43.body d43.scope (d43.dvs K) (d43.kws K) (He.fAd K d43.at_) fd) : FnOk P w K mg base CX0 1 (He.ma K (He.ga K "DaySet") "first_gap") fd ["self"] (spT K XT F_DaySet__first_gap) := by
  have sc := sc_DaySet__first_gap
  refine F.ok sc (sp_len fun _ => rfl) (fun cdv A outer s H vs Q E hr h => ?_)
  refine ⟨_, PSs.nox (pss_cons (ps_set (i := 1) sc.nd rfl (Or.inl rfl) (pe_m1 PySem.F.slot_str_find PySem.F.type_str_find mt_find (pe_op op_add_str (pe_fld (pv 0) rfl) (pe_fld (pv 0) rfl)) pe_str)) (pss_cons (ps_if (pt_cmpR op_lt (pv 1) pe_int (nomark _)) (pss_cons (ps_ret pe_non) pss_nil) pss_nil) (pss_cons (ps_ret (pv 1)) pss_nil))), ?_⟩
  refine sp_body0 h (fun _ _ => trivial) fun self => ?_
  show EvB K ⟨XT, fun _ _ _ _ => False⟩ 0 _ [some (.val (tv rI_DaySet self)), none] [] (fun (w : Option Int) => (.rt (tv (rOpt rInt) w) [] : OS)) (m_DaySet__first_gap self)
  unfold m_DaySet__first_gap
  exact (eb_bind fun r1 h1 => eb_bind fun at2 h2 => (eb_asg (oeV h2 (ev_findX (ev_op (ev_fldO (ev_as (s' := .val (oI_DaySet self)) (ev_var rfl) rfl) (T.cls 23 rfl) (T.noat 27 rfl) rfl rfl) (ev_fldO (ev_as (s' := .val (oI_DaySet self)) (ev_var rfl) rfl) (T.cls 23 rfl) (T.noat 26 rfl) rfl rfl) (rv_catX h1)) (ev_txt (l := [48]) (by decide +kernel))))
(eb_ifr (et_test (ev_op (ev_var rfl) ev_int rv_lt)) (fun _ => (eb_ret (ev_onone ev_none) rfl rfl))
(fun _ => (eb_ret (ev_osome (ev_var rfl)) rfl rfl)))))
theorem ok_DaySet__first_gap (T : Txt fa fn K mg) : OkS1 P w K mg base CX0 (He.ma K (He.ga K "DaySet") "first_gap") ["self"] 1 (spT K XT F_DaySet__first_gap) := by
  obtain ⟨fd, F⟩ := T.c.def_ 43 rfl
  exact ⟨fd, fn_DaySet__first_gap T F, FunD.bindsN F fun _ _ _ _ _ _ us hl => match us, hl with | [_], _ => rfl⟩
end
abbrev st_DaySet__greatest : Stmt := topM 12 23
abbrev NN_DaySet__greatest : List Str := ["self"]
theorem sc_DaySet__greatest : FnScope NN_DaySet__greatest ["self"] (defScope st_DaySet__greatest) := ⟨rfl, rfl, rfl, by decide +kernel, rfl, by decide +kernel, by decide +kernel⟩
abbrev F_DaySet__greatest : FS (C_DaySet) (Option Int) where
  ins := fun x => [.val (tv rI_DaySet x)]
  cells := fun x => []
  m := fun x => m_DaySet__greatest x
  out := fun x w => .rt (tv (rOpt rInt) w) []
section
variable {P : Program} {w : World} {K : PySem.W.Frag} {mg : Str → Option Value} {base : Heap}
set_option maxHeartbeats 4000000 in
theorem fn_DaySet__greatest {fd : FuncData} (T : Txt fa fn K mg) (F : FunD K d44.name d44.qual d44.params d44.body d44.scope (d44.dvs K) (d44.kws K) (He.fAd K d44.at_) fd) : FnOk P w K mg base CX0 1 (He.ma K (He.ga K "DaySet") "greatest") fd ["self"] (spT K XT F_DaySet__greatest) := by
  have sc := sc_DaySet__greatest
  refine F.ok sc (sp_len fun _ => rfl) (fun cdv A outer s H vs Q E hr h => ?_)
  refine ⟨_, PSs.nox (pss_cons (ps_if (PW.pt (pw_or (pt_cmpR op_ne (pe_fld (pv 0) rfl) pe_str (nomark _)) (pw_or1 (pt_cmpR op_eq (pe_fld (pv 0) rfl) pe_int (nomark _))))) (pss_cons (ps_ret pe_non) pss_nil) pss_nil) (pss_cons (ps_ret (pe_op op_sub (pe_fld (pv 0) rfl) pe_int)) pss_nil)), ?_⟩
  refine sp_body0 h (fun _ _ => trivial) fun self => ?_
  show EvB K ⟨XT, fun _ _ _ _ => False⟩ 0 _ [some (.val (tv rI_DaySet self))] [] (fun (w : Option Int) => (.rt (tv (rOpt rInt) w) [] : OS)) (m_DaySet__greatest self)
  unfold m_DaySet__greatest
  exact (eb_ifr (et_or0 (et_test (ev_op (ev_fldO (ev_as (s' := .val (oI_DaySet self)) (ev_var rfl) rfl) (T.cls 23 rfl) (T.noat 26 rfl) rfl rfl) (ev_txt (l := [48]) (by decide +kernel)) rv_neX)) (et_test (ev_op (ev_fldO (ev_as (s' := .val (oI_DaySet self)) (ev_var rfl) rfl) (T.cls 23 rfl) (T.noat 25 rfl) rfl rfl) ev_int rv_eqI))) (fun _ => (eb_ret (ev_onone ev_none) rfl rfl))
(fun _ => (eb_ret (ev_osome (ev_op (ev_fldO (ev_as (s' := .val (oI_DaySet self)) (ev_var rfl) rfl) (T.cls 23 rfl) (T.noat 25 rfl) rfl rfl) ev_int rv_sub)) rfl rfl)))
theorem ok_DaySet__greatest (T : Txt fa fn K mg) : OkS1 P w K mg base CX0 (He.ma K (He.ga K "DaySet") "greatest") ["self"] 1 (spT K XT F_DaySet__greatest) := by
  obtain ⟨fd, F⟩ := T.c.def_ 44 rfl
  exact ⟨fd, fn_DaySet__greatest T F, FunD.bindsN F fun _ _ _ _ _ _ us hl => match us, hl with | [_], _ => rfl⟩
end
abbrev st_DaySet__settled_from : Stmt := topM 12 24
abbrev NN_DaySet__settled_from : List Str := ["self"]
theorem sc_DaySet__settled_from : FnScope NN_DaySet__settled_from ["self"] (defScope st_DaySet__settled_from) := ⟨rfl, rfl, rfl, by decide +kernel, rfl, by decide +kernel, by decide +kernel⟩
abbrev F_DaySet__settled_from : FS (C_DaySet) (Option Int) where
  ins := fun x => [.val (tv rI_DaySet x)]
  cells := fun x => []
  m := fun x => m_DaySet__settled_from x
  out := fun x w => .rt (tv (rOpt rInt) w) []
section
variable {P : Program} {w : World} {K : PySem.W.Frag} {mg : Str → Option Value} {base : Heap}
set_option maxHeartbeats 4000000 in
theorem fn_DaySet__settled_from {fd : FuncData} (T : Txt fa fn K mg) (F : FunD K d45.name d45.qual d45.params d45.body d45.scope (d45.dvs K) (d45.kws K) (He.fAd K d45.at_) fd) : FnOk P w K mg base CX0 1 (He.ma K (He.ga K "DaySet") "settled_from") fd ["self"] (spT K XT F_DaySet__settled_from) := by
  have sc := sc_DaySet__settled_from
  refine F.ok sc (sp_len fun _ => rfl) (fun cdv A outer s H vs Q E hr h => ?_)
  refine ⟨_, PSs.nox (pss_cons (ps_if (pt_cmpR op_ne (pe_fld (pv 0) rfl) pe_str (nomark _)) (pss_cons (ps_ret pe_non) pss_nil) pss_nil) (pss_cons (ps_ret (pe_fld (pv 0) rfl)) pss_nil)), ?_⟩
  refine sp_body0 h (fun _ _ => trivial) fun self => ?_
  show EvB K ⟨XT, fun _ _ _ _ => False⟩ 0 _ [some (.val (tv rI_DaySet self))] [] (fun (w : Option Int) => (.rt (tv (rOpt rInt) w) [] : OS)) (m_DaySet__settled_from self)
  unfold m_DaySet__settled_from
  exact (eb_ifr (et_test (ev_op (ev_fldO (ev_as (s' := .val (oI_DaySet self)) (ev_var rfl) rfl) (T.cls 23 rfl) (T.noat 26 rfl) rfl rfl) (ev_txt (l := [49]) (by decide +kernel)) rv_neX)) (fun _ => (eb_ret (ev_onone ev_none) rfl rfl))
(fun _ => (eb_ret (ev_osome (ev_fldO (ev_as (s' := .val (oI_DaySet self)) (ev_var rfl) rfl) (T.cls 23 rfl) (T.noat 25 rfl) rfl rfl)) rfl rfl)))
theorem ok_DaySet__settled_from (T : Txt fa fn K mg) : OkS1 P w K mg base CX0 (He.ma K (He.ga K "DaySet") "settled_from") ["self"] 1 (spT K XT F_DaySet__settled_from) := by
  obtain ⟨fd, F⟩ := T.c.def_ 45 rfl
  exact ⟨fd, fn_DaySet__settled_from T F, FunD.bindsN F fun _ _ _ _ _ _ us hl => match us, hl with | [_], _ => rfl⟩
end
abbrev st__law_whole_holds : Stmt := top 38
abbrev NN__law_whole_holds : List Str := ["days", "one", "gap", "newest", "since_then"]
theorem sc__law_whole_holds : FnScope NN__law_whole_holds ["days", "one"] (defScope st__law_whole_holds) := ⟨rfl, rfl, rfl, by decide +kernel, rfl, by decide +kernel, by decide +kernel⟩
abbrev F_law_whole_holds : FS (C_DaySet × ((List Nat) × (List Nat))) (Bool) where
  ins := fun x => [.val (tv rI_DaySet x.1), .val (tv (rP2 rTxt rTxt) x.2)]
  cells := fun x => []
  m := fun x => m_law_whole_holds x.1 x.2
  out := fun x w => .rt (tv rBool w) []
section
variable {P : Program} {w : World} {K : PySem.W.Frag} {mg : Str → Option Value} {base : Heap}
set_option maxHeartbeats 4000000 in
theorem fn__law_whole_holds {fd : FuncData} (T : Txt fa fn K mg) (F : FunD K d46.name d46.qual d46.params d46.body d46.scope (d46.dvs K) (d46.kws K) (He.fAd K d46.at_) fd) : FnOk P w K mg base CX0 4 (He.ga K "_law_whole_holds") fd ["days", "one"] (spT K XT F_law_whole_holds) := by
  have sc := sc__law_whole_holds
  obtain ⟨fd0, G0, b0⟩ := ok_DaySet____bool__ (P := P) (w := w) (base := base) T
  obtain ⟨fd1, G1, b1, k1, g1⟩ := ok__law_truth (P := P) (w := w) (base := base) T
  obtain ⟨fd2, G2, b2⟩ := ok_DaySet__first_gap (P := P) (w := w) (base := base) T
  obtain ⟨fd3, G3, b3, k3, g3⟩ := ok__law_same (P := P) (w := w) (base := base) T
  obtain ⟨fd4, G4, b4⟩ := ok_DaySet__greatest (P := P) (w := w) (base := base) T
  obtain ⟨fd5, G5, b5⟩ := ok_DaySet__settled_from (P := P) (w := w) (base := base) T
  refine F.ok sc (sp_len fun _ => rfl) (fun cdv A outer s H vs Q E hr h => ?_)
  refine ⟨_, PSs.nox (pss_cons (ps_set (i := 2) sc.nd rfl (Or.inl rfl) (pe_m1 PySem.F.slot_str_find PySem.F.type_str_find mt_find (pe_op op_add_str (pe_ix (kIxT (K := K)) (pv 1) pe_int (fun _ _ => rfl)) (pe_ix (kIxT (K := K)) (pv 1) pe_int (fun _ _ => rfl))) pe_str)) (pss_cons (ps_if (pt_cmpR op_lt (pv 2) pe_int (nomark _)) (pss_cons (ps_set (i := 2) sc.nd rfl (Or.inl rfl) pe_non) pss_nil) pss_nil) (pss_cons (ps_set (i := 3) sc.nd rfl (Or.inl rfl) (pe_m1 PySem.F.slot_str_rfind PySem.F.type_str_rfind mt_rfind (pe_ix (kIxT (K := K)) (pv 1) pe_int (fun _ _ => rfl)) pe_str)) (pss_cons (ps_if (PW.pt (pw_or (pt_cmpR op_in_sign pe_str (pe_ix (kIxT (K := K)) (pv 1) pe_int (fun _ _ => rfl)) (by rfl)) (pw_or1 (pt_cmpR op_lt (pv 3) pe_int (nomark _))))) (pss_cons (ps_set (i := 3) sc.nd rfl (Or.inl rfl) pe_non) pss_nil) pss_nil) (pss_cons (ps_set (i := 4) sc.nd rfl (Or.inl rfl) (pe_op op_add (pe_m1 PySem.F.slot_str_rfind PySem.F.type_str_rfind mt_rfind (pe_ix (kIxT (K := K)) (pv 1) pe_int (fun _ _ => rfl)) pe_str) pe_int)) (pss_cons (ps_if (pt_cmpR op_in_sign pe_str (pe_ix (kIxT (K := K)) (pv 1) pe_int (fun _ _ => rfl)) (by rfl)) (pss_cons (ps_set (i := 4) sc.nd rfl (Or.inl rfl) pe_non) pss_nil) pss_nil) (pss_cons (ps_if (pt_not (pt_val (pe_call G1 (hr.mono (by decide)) rfl g1 k1 b1 .nil pass0 (pa_cons (pe_callTy (call_boolO (T.meth 75 rfl) G0 (hr.mono (by decide)) b0 pass0) (by rfl) (T.free 41) (by decide +kernel) (pa_cons (pv 0) pa_nil)) (pa_cons (pe_cmpR op_in_sign pe_str (pe_op op_add_str (pe_ix (kIxT (K := K)) (pv 1) pe_int (fun _ _ => rfl)) (pe_ix (kIxT (K := K)) (pv 1) pe_int (fun _ _ => rfl))) (by rfl)) pa_nil))))) (pss_cons (ps_ret pe_bl) pss_nil) pss_nil) (pss_cons (ps_if (PW.pt (pw_or (pt_not (pt_val (pe_call G3 (hr.mono (by decide)) rfl g3 k3 b3 .nil pass0 (pa_cons (pe_methS0 (pl := _) (pv 0) (T.cls 23 rfl) (T.meth 76 rfl) G2 (hr.mono (by decide)) b2 (fun _ => pass0A (E := fun _ _ _ => False))) (pa_cons (pv 2) pa_nil))))) (pw_or1 (pt_not (pt_val (pe_call G3 (hr.mono (by decide)) rfl g3 k3 b3 .nil pass0 (pa_cons (pe_methS0 (pl := _) (pv 0) (T.cls 23 rfl) (T.meth 77 rfl) G4 (hr.mono (by decide)) b4 (fun _ => pass0A (E := fun _ _ _ => False))) (pa_cons (pv 3) pa_nil)))))))) (pss_cons (ps_ret pe_bl) pss_nil) pss_nil) (pss_cons (ps_ret (pe_call G3 (hr.mono (by decide)) rfl g3 k3 b3 .nil pass0 (pa_cons (pe_methS0 (pl := _) (pv 0) (T.cls 23 rfl) (T.meth 78 rfl) G5 (hr.mono (by decide)) b5 (fun _ => pass0A (E := fun _ _ _ => False))) (pa_cons (pv 4) pa_nil)))) pss_nil))))))))), ?_⟩
  refine sp_body0 h (fun _ _ => trivial) fun x => ?_
  obtain ⟨days, one⟩ := x
  show EvB K ⟨XT, fun _ _ _ _ => False⟩ 0 _ [some (.val (tv rI_DaySet days)), some (.val (tv (rP2 rTxt rTxt) one)), none, none, none] [] (fun (w : Bool) => (.rt (tv rBool w) [] : OS)) (m_law_whole_holds days one)
  unfold m_law_whole_holds
  exact (eb_bind fun r1 h1 => eb_bind fun gap2 h2 => (eb_asg (ev_osome (oeV h2 (ev_findX (ev_op (ev_op (ev_var rfl) ev_int (rv_ixT is_p2 rfl)) (ev_op (ev_var rfl) ev_int (rv_ixT is_p2 rfl)) (rv_catX h1)) (ev_txt (l := [48]) (by decide +kernel)))))
(eb_bind fun r3 h3 => (eb_ifj (g := fun (s4 : Option Int) => [some (.val (tv rI_DaySet days)), some (.val (tv (rP2 rTxt rTxt) one)), some (.val (tv (rOpt rInt) s4)), none, none]) (mu := fun (s4 : Option Int) => []) (et_test (ev_op (ev_oget (ev_var rfl) h3) ev_int rv_lt)) (fun _ => (eb_asg (ev_onone ev_none)
(eb_nil rfl (.keep (.keep (.keep (.keep (.keep .nil))))) rfl (Nat.le_of_ble_eq_true rfl) rfl)))
(fun _ => (eb_nil rfl (.keep (.keep (.keep (.keep (.keep .nil))))) rfl (Nat.le_of_ble_eq_true rfl) rfl)) (fun _ => Nat.le_of_ble_eq_true rfl)
(fun s4 => (eb_bind fun newest5 h5 => (eb_asg (ev_osome (oeV h5 (ev_rfindX (ev_op (ev_var rfl) ev_int (rv_ixT is_p2 rfl)) (ev_txt (l := [49]) (by decide +kernel)))))
(eb_bind fun r7 h7 => (eb_ifj (g := fun (s9 : Option Int) => [some (.val (tv rI_DaySet days)), some (.val (tv (rP2 rTxt rTxt) one)), some (.val (tv (rOpt rInt) s4)), some (.val (tv (rOpt rInt) s9)), none]) (mu := fun (s9 : Option Int) => []) (et_orM (et_test (ev_op (ev_txt (l := [49]) (by decide +kernel)) (ev_op (ev_var rfl) ev_int (rv_ixT is_p2 rfl)) rv_inX1)) h7 (fun _ e8 => bo e8 fun r6 h6 e8 => oeT e8 (et_test (ev_op (ev_oget (ev_var rfl) h6) ev_int rv_lt)))) (fun _ => (eb_asg (ev_onone ev_none)
(eb_nil rfl (.keep (.keep (.keep (.keep (.keep .nil))))) rfl (Nat.le_of_ble_eq_true rfl) rfl)))
(fun _ => (eb_nil rfl (.keep (.keep (.keep (.keep (.keep .nil))))) rfl (Nat.le_of_ble_eq_true rfl) rfl)) (fun _ => Nat.le_of_ble_eq_true rfl)
(fun s9 => (eb_bind fun since_then10 h10 => (eb_asg (ev_osome (oeV h10 (ev_op (ev_rfindX (ev_op (ev_var rfl) ev_int (rv_ixT is_p2 rfl)) (ev_txt (l := [48]) (by decide +kernel))) ev_int rv_add)))
(eb_ifj (g := fun (s11 : Option Int) => [some (.val (tv rI_DaySet days)), some (.val (tv (rP2 rTxt rTxt) one)), some (.val (tv (rOpt rInt) s4)), some (.val (tv (rOpt rInt) s9)), some (.val (tv (rOpt rInt) s11))]) (mu := fun (s11 : Option Int) => []) (et_test (ev_op (ev_txt (l := [48]) (by decide +kernel)) (ev_op (ev_var rfl) ev_int (rv_ixT is_p2 rfl)) rv_inX1)) (fun _ => (eb_asg (ev_onone ev_none)
(eb_nil rfl (.keep (.keep (.keep (.keep (.keep .nil))))) rfl (Nat.le_of_ble_eq_true rfl) rfl)))
(fun _ => (eb_nil rfl (.keep (.keep (.keep (.keep (.keep .nil))))) rfl (Nat.le_of_ble_eq_true rfl) rfl)) (fun _ => Nat.le_of_ble_eq_true rfl)
(fun s11 => (eb_bind fun r12 h12 => eb_bind fun r13 h13 => eb_bind fun r14 h14 => (eb_ifr (et_not (et_B (ev_call (F := F_law_truth) (x := (r12, ((one.1 ++ one.2).contains 49))) (ea_cons (ev_cb1 (ev_as (s' := .val (oI_DaySet days)) (ev_var rfl) rfl) (rc_boolO (F := F_DaySet____bool__) (x := days) (is_insO (m := "__bool__") rfl) h12 )) (ea_cons (ev_op (ev_txt (l := [49]) (by decide +kernel)) (ev_op (ev_op (ev_var rfl) ev_int (rv_ixT is_p2 rfl)) (ev_op (ev_var rfl) ev_int (rv_ixT is_p2 rfl)) (rv_catX h13)) rv_inX1) ea_nil)) h14 (ss := [.val (tv rBool r12), .val (tv rBool ((one.1 ++ one.2).contains 49))]) (ks := []) ))) (fun _ => (eb_ret ev_bool rfl rfl))
(fun _ => (eb_bind fun r15 h15 => eb_bind fun r16 h16 => eb_bind fun r19 h19 => (eb_ifr (et_orM (et_not (et_B (ev_call (F := F_law_same) (x := (r15, s4)) (ea_cons (ev_meth (F := F_DaySet__first_gap) (x := days) (ev_as (s' := .val (oI_DaySet days)) (ev_var rfl) rfl) (is_insO (m := "first_gap") rfl) ea_nil h15 (ss := []) (ks := []) (ps := []) ) (ea_cons (ev_var rfl) ea_nil)) h16 (ss := [.val (tv (rOpt rInt) r15), .val (tv (rOpt rInt) s4)]) (ks := []) ))) h19 (fun _ e20 => bo e20 fun r17 h17 e20 => bo e20 fun r18 h18 e20 => oeT e20 (et_not (et_B (ev_call (F := F_law_same) (x := (r17, s9)) (ea_cons (ev_meth (F := F_DaySet__greatest) (x := days) (ev_as (s' := .val (oI_DaySet days)) (ev_var rfl) rfl) (is_insO (m := "greatest") rfl) ea_nil h17 (ss := []) (ks := []) (ps := []) ) (ea_cons (ev_var rfl) ea_nil)) h18 (ss := [.val (tv (rOpt rInt) r17), .val (tv (rOpt rInt) s9)]) (ks := []) ))))) (fun _ => (eb_ret ev_bool rfl rfl))
(fun _ => eb_bind fun r21 h21 => eb_bind fun r22 h22 => (eb_ret (ev_call (F := F_law_same) (x := (r21, s11)) (ea_cons (ev_meth (F := F_DaySet__settled_from) (x := days) (ev_as (s' := .val (oI_DaySet days)) (ev_var rfl) rfl) (is_insO (m := "settled_from") rfl) ea_nil h21 (ss := []) (ks := []) (ps := []) ) (ea_cons (ev_var rfl) ea_nil)) h22 (ss := [.val (tv (rOpt rInt) r21), .val (tv (rOpt rInt) s11)]) (ks := []) ) rfl rfl)))))))))))))))))))))
theorem ok__law_whole_holds (T : Txt fa fn K mg) : OkF P w K mg base "_law_whole_holds" ["days", "one"] 4 (spT K XT F_law_whole_holds) := by
  obtain ⟨fd, F⟩ := T.c.def_ 46 rfl
  exact ⟨fd, fn__law_whole_holds T F, FunD.bindsN F fun _ _ _ _ _ _ us hl => match us, hl with | [_, _], _ => rfl, F.kp, T.glob 79 rfl⟩
end
abbrev st_law : Stmt := top 51
abbrev NN_law : List Str := ["script", "box", "pairs", "asked", "one", "sets", "turn", "k", "which", "when", "rank"]
theorem sc_law : FnScope NN_law ["script"] (defScope st_law) := ⟨rfl, rfl, rfl, by decide +kernel, rfl, by decide +kernel, by decide +kernel⟩
abbrev F_law : FS (List Int) (Bool) where
  ins := fun x => [.val (tv (rSq .q rInt) x)]
  cells := fun x => []
  m := fun x => m_law x
  out := fun x w => .rt (tv rBool w) []
section
variable {P : Program} {w : World} {K : PySem.W.Frag} {mg : Str → Option Value} {base : Heap}
set_option maxHeartbeats 4000000 in
theorem fn_law {fd : FuncData} (T : Txt fa fn K mg) (F : FunD K d47.name d47.qual d47.params d47.body d47.scope (d47.dvs K) (d47.kws K) (He.fAd K d47.at_) fd) : FnOk P w K mg base CX0 9 (He.ga K "law") fd ["script"] (spT K XT F_law) := by
  have sc := sc_law
  obtain ⟨fd0, G0, b0, k0, g0⟩ := ok__law_box (P := P) (w := w) (base := base) T
  obtain ⟨fd1, G1, b1, k1, g1⟩ := ok__law_drawn (P := P) (w := w) (base := base) T
  obtain ⟨fd2, G2, b2, k2, g2⟩ := ok__law_number (P := P) (w := w) (base := base) T
  obtain ⟨fd3, G3, b3, k3, g3⟩ := ok__law_made_hold (P := P) (w := w) (base := base) T
  obtain ⟨fd4, G4, b4⟩ := ok_DaySet____init__ (P := P) (w := w) (base := base) T
  obtain ⟨fd5, G5, b5, k5, g5⟩ := ok__law_day_holds (P := P) (w := w) (base := base) T
  obtain ⟨fd6, G6, b6, k6, g6⟩ := ok__law_named_holds (P := P) (w := w) (base := base) T
  obtain ⟨fd7, G7, b7, k7, g7⟩ := ok__law_whole_holds (P := P) (w := w) (base := base) T
  refine F.ok sc (sp_len fun _ => rfl) (fun cdv A outer s H vs Q E hr h => ?_)
  refine ⟨_, PSs.nox (pss_cons (ps_set (i := 1) sc.nd rfl (Or.inr rfl) (pe_call G0 (hr.mono (by decide)) rfl g0 k0 b0 .nil pass0 (pa_cons (pv 0) pa_nil))) (pss_cons (ps_set (i := 2) sc.nd rfl (Or.inl rfl) (pe_lst (pa_cons (pe_call G1 (hr.mono (by decide)) rfl g1 k1 b1 .nil pass0 (pa_cons (pv 1) pa_nil)) (pa_cons (pe_call G1 (hr.mono (by decide)) rfl g1 k1 b1 .nil pass0 (pa_cons (pv 1) pa_nil)) pa_nil)))) (pss_cons (ps_set (i := 3) sc.nd rfl (Or.inl rfl) (pe_lst pa_nil)) (pss_cons (ps_for PassesOwn.never rfl (kPiL (K := K) (pv 2)) (pg_name (i := 4) sc.nd rfl (Or.inr rfl)) (pss_cons (ps_expr (pe_bm PySem.F.plainAttrs_list PySem.F.slot_list_append PySem.F.type_list_append mt_append (pv 3) (pa_cons (pe_lc (own := [("k", 7)]) (g := _) (tt := _) rfl sc.nd (pi_range1 rfl (T.free 4) (pa_cons pe_int pa_nil)) (blkOk_by (N := NN_law) (sc := defScope st_law) (by decide +kernel)) (fun _ _ _ _ _ => (pg_name (i := 7) sc.nd rfl (Or.inl rfl))) (fun _ _ _ _ _ => pts_nil) (fun _ _ _ _ _ => (pe_call G2 (hr.mono (by decide)) rfl g2 k2 b2 .nil pass0 (pa_cons (pv 1) (pa_cons (pv 4) (pa_cons (pe_callB call_len_str (by rfl) (T.free 1) (by decide +kernel) (pa_cons (pe_ix (kIxT (K := K)) (pv 4) pe_int (fun _ _ => rfl)) pa_nil)) pa_nil)))))) pa_nil))) (pss_cons (ps_expr (pe_bm PySem.F.plainAttrs_list PySem.F.slot_list_append PySem.F.type_list_append mt_append (pv 3) (pa_cons (pe_lc (own := [("k", 7)]) (g := _) (tt := _) rfl sc.nd (pi_range1 rfl (T.free 4) (pa_cons pe_int pa_nil)) (blkOk_by (N := NN_law) (sc := defScope st_law) (by decide +kernel)) (fun _ _ _ _ _ => (pg_name (i := 7) sc.nd rfl (Or.inl rfl))) (fun _ _ _ _ _ => pts_nil) (fun _ _ _ _ _ => (pe_call G2 (hr.mono (by decide)) rfl g2 k2 b2 .nil pass0 (pa_cons (pv 1) (pa_cons (pv 4) (pa_cons (pe_m1 PySem.F.slot_str_count PySem.F.type_str_count mt_count (pe_ix (kIxT (K := K)) (pv 4) pe_int (fun _ _ => rfl)) pe_str) pa_nil)))))) pa_nil))) pss_nil))) (pss_cons (ps_if (pt_not (pt_val (pe_call G3 (hr.mono (by decide)) rfl g3 k3 b3 .nil pass0 (pa_cons (pv 1) pa_nil)))) (pss_cons (ps_ret pe_bl) pss_nil) pss_nil) (pss_cons (ps_set (i := 5) sc.nd rfl (Or.inl rfl) (pe_lst (pa_cons (pe_makeS (T.mkr 28 rfl) G4 (hr.mono (by decide)) rfl (T.glob 29 rfl) b4 (fun σ => L2N.passAt takes0 σ) (pa_cons (pe_ix (kIxT (K := K)) (pe_ix (kIxL (K := K)) (pv 2) pe_int (fun _ _ => rfl)) pe_int (fun _ _ => rfl)) (pa_cons (pe_ix (kIxT (K := K)) (pe_ix (kIxL (K := K)) (pv 2) pe_int (fun _ _ => rfl)) pe_int (fun _ _ => rfl)) pa_nil))) (pa_cons (pe_makeS (T.mkr 28 rfl) G4 (hr.mono (by decide)) rfl (T.glob 29 rfl) b4 (fun σ => L2N.passAt takes0 σ) (pa_cons (pe_ix (kIxT (K := K)) (pe_ix (kIxL (K := K)) (pv 2) pe_int (fun _ _ => rfl)) pe_int (fun _ _ => rfl)) (pa_cons (pe_ix (kIxT (K := K)) (pe_ix (kIxL (K := K)) (pv 2) pe_int (fun _ _ => rfl)) pe_int (fun _ _ => rfl)) pa_nil))) pa_nil)))) (pss_cons (ps_for PassesOwn.never rfl (pi_range1 rfl (T.free 4) (pa_cons pe_int pa_nil)) (pg_name (i := 6) sc.nd rfl (Or.inl rfl)) (pss_cons (ps_set (i := 7) sc.nd rfl (Or.inl rfl) (pe_op op_mod (pe_callTy call_int1 (by rfl) (T.free 0) (by decide +kernel) (pa_cons (pv 6) pa_nil)) pe_int)) (pss_cons (ps_for PassesOwn.never rfl (pi_range1 rfl (T.free 4) (pa_cons pe_int pa_nil)) (pg_name (i := 8) sc.nd rfl (Or.inl rfl)) (pss_cons (ps_set (i := 9) sc.nd rfl (Or.inl rfl) (pe_ix (kIxL (K := K)) (pe_ix (kIxL (K := K)) (pv 3) (pe_op op_mul pe_int (pv 8)) (fun _ _ => rfl)) (pv 7) (fun _ _ => rfl))) (pss_cons (ps_set (i := 10) sc.nd rfl (Or.inl rfl) (pe_ix (kIxL (K := K)) (pe_ix (kIxL (K := K)) (pv 3) (pe_op op_add (pe_op op_mul pe_int (pv 8)) pe_int) (fun _ _ => rfl)) (pv 7) (fun _ _ => rfl))) (pss_cons (ps_if (pt_not (pt_val (pe_call G5 (hr.mono (by decide)) rfl g5 k5 b5 .nil pass0 (pa_cons (pe_ix (kIxL (K := K)) (pv 5) (pv 8) (fun _ _ => rfl)) (pa_cons (pe_ix (kIxL (K := K)) (pv 2) (pv 8) (fun _ _ => rfl)) (pa_cons (pv 9) (pa_cons (pv 10) pa_nil))))))) (pss_cons (ps_ret pe_bl) pss_nil) pss_nil) (pss_cons (ps_if (PW.pt (pw_and (pt_cmpR op_gt (pv 6) pe_int (nomark _)) (pw_and1 (pt_not (pt_val (pe_call G6 (hr.mono (by decide)) rfl g6 k6 b6 .nil pass0 (pa_cons (pe_ix (kIxL (K := K)) (pv 5) (pv 8) (fun _ _ => rfl)) (pa_cons (pe_ix (kIxL (K := K)) (pv 2) (pv 8) (fun _ _ => rfl)) (pa_cons (pv 9) (pa_cons (pv 10) pa_nil)))))))))) (pss_cons (ps_ret pe_bl) pss_nil) pss_nil) (pss_cons (ps_if (pt_not (pt_val (pe_call G7 (hr.mono (by decide)) rfl g7 k7 b7 .nil pass0 (pa_cons (pe_ix (kIxL (K := K)) (pv 5) (pv 8) (fun _ _ => rfl)) (pa_cons (pe_ix (kIxL (K := K)) (pv 2) (pv 8) (fun _ _ => rfl)) pa_nil))))) (pss_cons (ps_ret pe_bl) pss_nil) pss_nil) pss_nil)))))) pss_nil))) (pss_cons (ps_ret pe_bl) pss_nil)))))))), ?_⟩
  refine sp_body0 h (fun _ _ => trivial) fun script => ?_
  show EvB K ⟨XT, fun _ _ _ _ => False⟩ 0 _ [some (.val (tv (rSq .q rInt) script)), none, none, none, none, none, none, none, none, none, none] [] (fun (w : Bool) => (.rt (tv rBool w) [] : OS)) (m_law script)
  unfold m_law
  exact (eb_bind fun r1 h1 => (eb_asg (ev_own (ef_call (F := F_law_box) (x := script) (ea_cons (ev_var rfl) ea_nil) h1 (ss := [.val (tv (rSq .q rInt) script)]) (ks := []) ))
(eb_bind fun r2 h2 => eb_bind fun r3 h3 => eb_bind fun pairs4 h4 => (eb_asg (ev_lstR (oeF (R := (rP2 rTxt rTxt)) h4 (ef_mkL (R := (rP2 rTxt rTxt)) (xs := ([r2.1, r3.1] : List ((List Nat) × (List Nat)))) (ea_cons (ev_call (F := F_law_drawn) (x := r1) (ea_cons (ev_var rfl) ea_nil) h2 (ss := [.cell 0]) (ks := [0]) ) (ea_cons (ev_call (F := F_law_drawn) (x := r2.2) (ea_cons (ev_var rfl) ea_nil) h3 (ss := [.cell 0]) (ks := [0]) ) ea_nil)))))
(eb_bind fun asked5 h5 => (eb_asg (ev_own (oeF (R := (rSq .l rInt)) h5 (ef_mkL (R := (rSq .l rInt)) (xs := ([] : List (List Int))) ea_nil)))
(eb_for (R := (rP2 rTxt rTxt)) (g := fun (s6 : H_law_box × (List (List Int))) => [some (.val (tv (rSq .q rInt) script)), some (.cell 0), some (.val (tv (rSq .l (rP2 rTxt rTxt)) pairs4)), some (.cell 1), none, none, none, none, none, none, none]) (mu := fun (s6 : H_law_box × (List (List Int))) => [some (mv_H_law_box s6.1), some (mL (s6.2.map (tv (rSq .l rInt))))]) (by exact (ei_L (ev_var rfl))) (fun _ => trivial) (.keep (.keep (.keep (.keep (.keep (.keep (.keep (.keep (.keep (.keep (.keep .nil))))))))))) (fun _ => rfl) (fun _ _ => eg_name)
(fun s6 x7 => (eb_bind fun r14 h14 => eb_bind fun r18 h18 => (eb_appL none (ev_var rfl) rfl (ev_lstR (ef_mapS (mu := fun s11 => [some (mv_H_law_box s11), some (mL (s6.2.map (tv (rSq .l rInt))))]) (R' := rInt) (ei_rng1 (ea_cons ev_int ea_nil) ⟨by decide, by decide⟩) (fun _ => hz_ble (by decide +kernel)) (fun _ => trivial) (fun _ => rfl) (fun _ => ego_name) (fun s11 x8 y16 s17 e15 => bo e15 fun r12 h12 e15 => bo e15 fun r13 h13 e15 => oePm (mu := fun s11 => [some (mv_H_law_box s11), some (mL (s6.2.map (tv (rSq .l rInt))))]) e15 (ev_call (F := F_law_number) (x := (s11, x7, (x7.1.length : Int))) (ea_cons (ev_var rfl) (ea_cons (ev_var rfl) (ea_cons (ev_cb1 (ev_op (ev_var rfl) ev_int (rv_ixT is_p2 rfl)) (rc_lenX h12)) ea_nil))) h13 (ss := [.cell 0, .val (tv (rP2 rTxt rTxt) x7), .val (tv rInt (x7.1.length : Int))]) (ks := [0]) )) (pairR h14))) rfl h18
(eb_bind fun r23 h23 => eb_bind fun r27 h27 => (eb_appL none (ev_var rfl) rfl (ev_lstR (ef_mapS (mu := fun s21 => [some (mv_H_law_box s21), some (mL ((s6.2 ++ [r14.1]).map (tv (rSq .l rInt))))]) (R' := rInt) (ei_rng1 (ea_cons ev_int ea_nil) ⟨by decide, by decide⟩) (fun _ => hz_ble (by decide +kernel)) (fun _ => trivial) (fun _ => rfl) (fun _ => ego_name) (fun s21 x19 y25 s26 e24 => bo e24 fun r22 h22 e24 => oePm (mu := fun s21 => [some (mv_H_law_box s21), some (mL ((s6.2 ++ [r14.1]).map (tv (rSq .l rInt))))]) e24 (ev_call (F := F_law_number) (x := (s21, x7, (((x7.1.count 49 : Nat) : Int)))) (ea_cons (ev_var rfl) (ea_cons (ev_var rfl) (ea_cons (ev_countX (ev_op (ev_var rfl) ev_int (rv_ixT is_p2 rfl)) (ev_txt (l := [49]) (by decide +kernel))) ea_nil))) h22 (ss := [.cell 0, .val (tv (rP2 rTxt rTxt) x7), .val (tv rInt (((x7.1.count 49 : Nat) : Int)))]) (ks := [0]) )) (pairR h23))) rfl h27
(eb_nil rfl (.keep (.keep (.keep (.keep (.drop (.keep (.keep (.keep (.keep (.keep (.keep .nil))))))))))) rfl (Nat.le_of_ble_eq_true rfl) rfl))))))
(fun s6 => (eb_bind fun r28 h28 => (eb_ifr (et_not (et_B (ev_call (F := F_law_made_hold) (x := s6.1) (ea_cons (ev_var rfl) ea_nil) h28 (ss := [.cell 0]) (ks := [0]) ))) (fun _ => (eb_ret ev_bool rfl rfl))
(fun _ => (eb_bind fun r29 h29 => eb_bind fun r30 h30 => eb_rz (fun r31 h31 => eb_bind fun r32 h32 => eb_bind fun r33 h33 => eb_rz (fun r34 h34 => eb_bind fun sets35 h35 => (eb_asg (ev_lstR (oeF (R := rI_DaySet) h35 (ef_mkL (R := rI_DaySet) (xs := ([r31, r34] : List C_DaySet)) (ea_cons (ev_frz (ef_make (F := F_DaySet____init__) (cn := "DaySet") (x := ((), r29.1, r30.2)) (ea_cons (ev_op (ev_op (ev_var rfl) ev_int (rv_ixL (is_seq (k := .l) (R := (rP2 rTxt rTxt)) (xs := pairs4)) (at_map h29))) ev_int (rv_ixT is_p2 rfl)) (ea_cons (ev_op (ev_op (ev_var rfl) ev_int (rv_ixL (is_seq (k := .l) (R := (rP2 rTxt rTxt)) (xs := pairs4)) (at_map h30))) ev_int (rv_ixT is_p2 rfl)) ea_nil)) h31 (ss := [.val (tv rTxt r29.1), .val (tv rTxt r30.2)]) (ks := []) (ps := []) ) frz_DaySet) (ea_cons (ev_frz (ef_make (F := F_DaySet____init__) (cn := "DaySet") (x := ((), r32.1, r33.2)) (ea_cons (ev_op (ev_op (ev_var rfl) ev_int (rv_ixL (is_seq (k := .l) (R := (rP2 rTxt rTxt)) (xs := pairs4)) (at_map h32))) ev_int (rv_ixT is_p2 rfl)) (ea_cons (ev_op (ev_op (ev_var rfl) ev_int (rv_ixL (is_seq (k := .l) (R := (rP2 rTxt rTxt)) (xs := pairs4)) (at_map h33))) ev_int (rv_ixT is_p2 rfl)) ea_nil)) h34 (ss := [.val (tv rTxt r32.1), .val (tv rTxt r33.2)]) (ks := []) (ps := []) ) frz_DaySet) ea_nil)))))
(eb_for (R := rInt) (g := fun (s36 : Unit) => [some (.val (tv (rSq .q rInt) script)), some (.cell 0), some (.val (tv (rSq .l (rP2 rTxt rTxt)) pairs4)), some (.cell 1), none, some (.val (tv (rSq .l rI_DaySet) sets35)), none, none, none, none, none]) (mu := fun (s36 : Unit) => [some (mv_H_law_box r28.2), some (mL (s6.2.map (tv (rSq .l rInt))))]) (by exact (ei_rng1 (ea_cons ev_int ea_nil) ⟨by decide, by decide⟩)) (fun _ => trivial) (.keep (.keep (.keep (.keep (.keep (.keep (.keep (.keep (.keep (.keep (.keep .nil))))))))))) (fun _ => rfl) (fun _ _ => eg_name)
(fun s36 x37 => (eb_bind fun k38 h38 => (eb_asg (oeV h38 (ev_op (ev_cb1 (ev_var rfl) rc_int) ev_int (rv_mod (by decide))))
(eb_for (R := rInt) (g := fun (s39 : Unit) => [some (.val (tv (rSq .q rInt) script)), some (.cell 0), some (.val (tv (rSq .l (rP2 rTxt rTxt)) pairs4)), some (.cell 1), none, some (.val (tv (rSq .l rI_DaySet) sets35)), some (.val (tv rInt x37)), some (.val (tv rInt k38)), none, none, none]) (mu := fun (s39 : Unit) => [some (mv_H_law_box r28.2), some (mL (s6.2.map (tv (rSq .l rInt))))]) (by exact (ei_rng1 (ea_cons ev_int ea_nil) ⟨by decide, by decide⟩)) (fun _ => trivial) (.keep (.keep (.keep (.keep (.keep (.keep (.keep (.keep (.keep (.keep (.keep .nil))))))))))) (fun _ => rfl) (fun _ _ => eg_name)
(fun s39 x40 => (eb_bind fun r41 h41 => eb_bind fun r42 h42 => (eb_asg (ev_op (ev_op (ev_var rfl) (ev_op ev_int (ev_var rfl) (rv_mulC (.inl ⟨by decide, by decide⟩))) (rv_ixL (is_cell none rfl) (at_map h41))) (ev_var rfl) (rv_ixL (is_seq (k := .l) (R := rInt) (xs := r41)) (at_map h42)))
(eb_bind fun r43 h43 => eb_bind fun r44 h44 => (eb_asg (ev_op (ev_op (ev_var rfl) (ev_op (ev_op ev_int (ev_var rfl) (rv_mulC (.inl ⟨by decide, by decide⟩))) ev_int rv_add) (rv_ixL (is_cell none rfl) (at_map h43))) (ev_var rfl) (rv_ixL (is_seq (k := .l) (R := rInt) (xs := r43)) (at_map h44)))
(eb_bind fun r45 h45 => eb_bind fun r46 h46 => eb_bind fun r47 h47 => (eb_ifr (et_not (et_B (ev_call (F := F_law_day_holds) (x := (r45, r46, r42, r44)) (ea_cons (ev_op (ev_var rfl) (ev_var rfl) (rv_ixL (is_seq (k := .l) (R := rI_DaySet) (xs := sets35)) (at_map h45))) (ea_cons (ev_op (ev_var rfl) (ev_var rfl) (rv_ixL (is_seq (k := .l) (R := (rP2 rTxt rTxt)) (xs := pairs4)) (at_map h46))) (ea_cons (ev_var rfl) (ea_cons (ev_var rfl) ea_nil)))) h47 (ss := [.val (tv rI_DaySet r45), .val (tv (rP2 rTxt rTxt) r46), .val (tv rInt r42), .val (tv rInt r44)]) (ks := []) ))) (fun _ => (eb_ret ev_bool rfl rfl))
(fun _ => (eb_bind fun r51 h51 => (eb_ifr (et_andM (et_test (ev_op (ev_var rfl) ev_int rv_gt)) h51 (fun _ e52 => bo e52 fun r48 h48 e52 => bo e52 fun r49 h49 e52 => bo e52 fun r50 h50 e52 => oeT e52 (et_not (et_B (ev_call (F := F_law_named_holds) (x := (r48, r49, r42, r44)) (ea_cons (ev_op (ev_var rfl) (ev_var rfl) (rv_ixL (is_seq (k := .l) (R := rI_DaySet) (xs := sets35)) (at_map h48))) (ea_cons (ev_op (ev_var rfl) (ev_var rfl) (rv_ixL (is_seq (k := .l) (R := (rP2 rTxt rTxt)) (xs := pairs4)) (at_map h49))) (ea_cons (ev_var rfl) (ea_cons (ev_var rfl) ea_nil)))) h50 (ss := [.val (tv rI_DaySet r48), .val (tv (rP2 rTxt rTxt) r49), .val (tv rInt r42), .val (tv rInt r44)]) (ks := []) ))))) (fun _ => (eb_ret ev_bool rfl rfl))
(fun _ => (eb_bind fun r53 h53 => eb_bind fun r54 h54 => eb_bind fun r55 h55 => (eb_ifl (et_not (et_B (ev_call (F := F_law_whole_holds) (x := (r53, r54)) (ea_cons (ev_op (ev_var rfl) (ev_var rfl) (rv_ixL (is_seq (k := .l) (R := rI_DaySet) (xs := sets35)) (at_map h53))) (ea_cons (ev_op (ev_var rfl) (ev_var rfl) (rv_ixL (is_seq (k := .l) (R := (rP2 rTxt rTxt)) (xs := pairs4)) (at_map h54))) ea_nil)) h55 (ss := [.val (tv rI_DaySet r53), .val (tv (rP2 rTxt rTxt) r54)]) (ks := []) ))) (fun _ => (eb_ret ev_bool rfl rfl))
(fun _ => (eb_nil rfl (.keep (.keep (.keep (.keep (.keep (.keep (.keep (.keep (.drop (.drop (.drop .nil))))))))))) rfl (Nat.le_of_ble_eq_true rfl) rfl)))))))))))))))
(fun s39 => (eb_nil rfl (.keep (.keep (.keep (.keep (.keep (.keep (.drop (.drop (.keep (.keep (.keep .nil))))))))))) rfl (Nat.le_of_ble_eq_true rfl) rfl))))))
(fun s36 => (eb_ret ev_bool rfl rfl))))) (fun _ _ _ => eb_stuck)) (fun _ _ _ => eb_stuck)))))))))))))
theorem ok_law (T : Txt fa fn K mg) : OkF P w K mg base "law" ["script"] 9 (spT K XT F_law) := by
  obtain ⟨fd, F⟩ := T.c.def_ 47 rfl
  exact ⟨fd, fn_law T F, FunD.bindsN F fun _ _ _ _ _ _ us hl => match us, hl with | [_], _ => rfl, F.kp, T.glob 80 rfl⟩
end
section
variable {P : Program} {w : World} {K : PySem.W.Frag} {mg : Str → Option Value}
theorem ok_all (T : Txt fa fn K mg) : ∃ fd, ∀ base, FnOk P w K mg base CX0 9 (He.ga K "law") fd ["script"] (spT K XT F_law) ∧ ∀ s us, us.length = 1 → BindsTo s fd ⟨us, []⟩ ((["script"] : List Str).zip us) := by
  obtain ⟨fd, F⟩ := T.c.def_ 47 rfl
  exact ⟨fd, fun base => ⟨fn_law T F, FunD.bindsA (ps := ["script"]) F fun _ _ _ _ _ _ us hl => match us, hl with | [_], _ => rfl⟩⟩
end
end K02

namespace K02
open PySem PySem.Spec PyProof.Rows L2 TL
def lo0 : List PySem.Str := ["lcm", "_wall", "__name__", "divisors_of", "normal_form", "_least_period", "WheelError", "BadText", "TooLong", "LONGEST", "DaySet", "common_span", "_bounded_span", "_combined", "_marks", "_only_marks"]
def lo1 : List PySem.Str := ["_exchanged", "_place_of", "_law_box", "_law_take", "_law_bits", "_law_wide", "_law_drawn", "_law_number", "_law_normal", "_law_integer", "_law_truth", "_law_shown", "_law_same", "_law_member", "_law_next", "_law_count"]
def lo2 : List PySem.Str := ["_law_nth_holds", "_law_day_holds", "_law_named_holds", "_law_whole_holds", "_law_only_days", "_law_only_made", "_law_only_due", "_law_bound_day", "_law_span_made", "_law_span_due", "_law_length", "_law_begin", "_law_every_made", "_law_every_due", "_law_as_due", "_law_made_hold"]
def loose : List PySem.Str := lo0 ++ lo1 ++ lo2
abbrev Rw : PySem.W.OpenRow := PySem.W.OpenLaw.row PySem.Challenge.rw_rulewheel_k02_dayset_counting
def xs : List PySem.Str := (["_law_box", "_law_take", "_law_bits", "_law_drawn", "_law_wide", "_law_number", "_law_only_days", "_only_marks", "divisors_of", "_least_period", "normal_form", "_law_only_made", "_law_normal", "_law_only_due", "_law_integer", "_law_shown"] : List PySem.Str) ++ (["_law_as_due", "_law_bound_day", "_law_span_made", "_law_span_due", "_law_length", "_law_begin", "_law_every_made", "_law_every_due", "_law_made_hold", "_law_member", "_law_truth", "_law_next", "_law_same", "_law_count", "_place_of", "_law_nth_holds"] : List PySem.Str) ++ (["_law_day_holds", "_law_named_holds", "_law_whole_holds", "law", "WheelError", "BadText", "TooLong", "DaySet"] : List PySem.Str)
abbrev hk : PySem.W.Hook := TL.hookT xs fa fn
def ob (s : PySem.W.SharedT) : He.AlD := TL.obsTG xs fa fn (HandSHeadRun.getT s)
theorem ob_eq (s : PySem.W.SharedT) : ob s = hk.obs s.abs := TL.obsTG_eq (HandSHeadRun.getT_eq s)
theorem run (w : World) : HandSHeadRun.RunEqI Rw (PySem.W.view Rw.prog [0, 51]) hk ob 4000 loose w := by
  show _; unfold HandSHeadRun.RunEqI
  kernel_rfl
theorem sp_law {K : PySem.W.Frag} {H : Hp} {a : Addr} {ns : List Int} (hl : ns.length ≤ 63) (hS : SqL K H a (ns.map V.int)) : spT K XT F_law [.ref a] H (fun v _ => v = .bl true) (fun _ _ _ => False) := by
  refine ⟨ns, true, H, [], fun _ => False, law_true ns hl, ?hs, .cons ⟨a, ns.map V.int, rfl, hS, ?hz, ints_allT ns⟩ .nil, ?ha⟩
  case hs => exact HS.start0
  case hz =>
    rw [List.length_map]
    exact Nat.le_trans hl (by decide)
  case ha => exact fun v S' ls' H' Mj _ h => h
end K02
open PySem PySem.W PySem.Calls PyProof.Rows
theorem PySem.Challenge.cw_rulewheel_k02_dayset_counting_holds : PySem.Challenge.rw_rulewheel_k02_dayset_counting.Holds := by
  w_on; o_law
  refine HandSHeadRun.head_imp (r := OpenLaw.row PySem.Challenge.rw_rulewheel_k02_dayset_counting) (q := view (OpenLaw.row PySem.Challenge.rw_rulewheel_k02_dayset_counting).prog [0, 51]) (H := K02.hk) (ob := K02.ob) (M := 4000) (loose := K02.loose) (d := HandSHeadRun.topDef (OpenLaw.row PySem.Challenge.rw_rulewheel_k02_dayset_counting).prog 51) (kwd := []) K02.ob_eq
    K02.run (by kernel_rfl) (by kernel_rfl) (by kernel_rfl) (by rfl) (by first | assumption | decide +kernel) (by decide +kernel) ⟨rfl, rfl, rfl, rfl, rfl, by decide +kernel⟩ ?hw ?hc
  case hw => w_witness2
  case hc =>
    refine L2.walk_ofE (l := PySem.Challenge.rw_rulewheel_k02_dayset_counting) (n := 63) (k := 9) (x := "script") (CX := L2.CX0) rfl (by decide) (by kernel_rfl) ⟨rfl, by decide, by decide⟩ ?F (fun _ _ _ _ z => z)
    intro w mg fa h Y G hmg0
    obtain ⟨K, KX, c⟩ := Y
    have hmg : mg ("law" : PySem.Str) = some (.ref fa) := by
      have e : (HandSHeadRun.topDef (OpenLaw.row PySem.Challenge.rw_rulewheel_k02_dayset_counting).prog 51).name = ("law" : PySem.Str) := by kernel_rfl
      rw [← e]
      exact hmg0
    have T := TL.Txt.mk' KX G c
    obtain ⟨fd, _, _, _, g⟩ := K02.ok_law (P := (PySem.Challenge.rw_rulewheel_k02_dayset_counting).prog) (w := w) (base := h) T
    have efa : fa = He.ga K "law" := by
      rw [hmg] at g
      cases g
      rfl
    subst efa
    obtain ⟨fd, hF⟩ := K02.ok_all (P := (PySem.Challenge.rw_rulewheel_k02_dayset_counting).prog) (w := w) T
    exact ⟨K, fd, TL.spT K K02.XT K02.F_law, KX, fun s v => (hF h).2 s [v] rfl, fun H a ns hl _ hS => K02.sp_law hl hS, fun base _ _ => (hF base).1⟩
