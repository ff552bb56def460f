import PyProof.Rows.All
import Wide.All
import OpenK.AllK
import Wide.FinOn
import HandS.ForMost
import HandS.Wide
import HandS.WideBits
import HandS.Style
import HandS.IsInst
import HandS.Flow
import HandS.Steps
import HandS.SortInts
import HandS.SetFor
import HandS.Strs
import PyProof.Rows.SortShellAny
import HandS.Conv
import HandS.RevRange
import HandS.SortRule
import HandS.More
import HandS.WordsDict
import HandS.NoneIn
import HandS.ListItems
import HandS.TupSets
import HandS.Text
import HandS.Iter
import KE.IntTextLaws
import KE.KDictList
import PySem.Challenge.RW_fewchecks_k92_whole_net_texts
set_option Elab.async false
set_option linter.all false
set_option autoImplicit false
set_option maxRecDepth 100000
set_option maxHeartbeats 4000000
section
namespace DL
/-! ### the mirror's words: plain Lean -/
structure T1 (α : Type) where
  a : α
  deriving DecidableEq, Repr
structure T2 (α β : Type) where
  a : α
  b : β
  deriving DecidableEq, Repr
structure T3 (α β γ : Type) where
  a : α
  b : β
  c : γ
  deriving DecidableEq, Repr
structure T4 (α β γ δ : Type) where
  a : α
  b : β
  c : γ
  d : δ
  deriving DecidableEq, Repr
structure T5 (α β γ δ ε : Type) where
  a : α
  b : β
  c : γ
  d : δ
  e : ε
  deriving DecidableEq, Repr
structure Bag where
  cells : List Int
  i : Int
  d : Int
  s : Int
  c : Int
inductive Fl (σ ρ : Type) where
  | next (s : σ)
  | ret (r : ρ)
@[irreducible] def BIG : Nat := 2 ^ 400000
@[irreducible] def BIGD : Nat := 2 ^ 8999
def LIM : Nat := 1000000
theorem lt_BIG {a : Nat} (h : a < 2 ^ 400000) : a < BIG := by
  unfold BIG
  exact h
theorem of_BIG {a : Nat} (h : a < BIG) : a < 2 ^ 400000 := by
  unfold BIG at h
  exact h
theorem lt_BIGD {a : Nat} (h : a < 2 ^ 8999) : a < BIGD := by
  unfold BIGD
  exact h
theorem of_BIGD {a : Nat} (h : a < BIGD) : a < 2 ^ 8999 := by
  unfold BIGD at h
  exact h
def smallI (a : Int) : Prop := -(2 ^ 64) < a ∧ a < 2 ^ 64
instance (a : Int) : Decidable (smallI a) := inferInstanceAs (Decidable (_ ∧ _))
def mulO (a b : Int) : Option Int := if smallI a ∨ smallI b ∨ (a.natAbs < BIG ∧ b.natAbs < BIG) then some (a * b) else none
def modO (a b : Int) : Option Int := if 0 < b then some (a % b) else none
def divO (a b : Int) : Option Int := if 0 < b ∧ b.natAbs < BIGD then some (a / b) else none
def powO (a b : Int) : Option Int := if 0 ≤ b ∧ b ≤ 1000000 ∧ a.natAbs < 2 ^ 64 then some (a ^ b.toNat) else none
def ixJ (n : Nat) (i : Int) : Option Nat := if 0 ≤ i then (if i < n then some i.toNat else none) else if -(n : Int) ≤ i then some (i + n).toNat else none
def ixO {α : Type} (xs : List α) (i : Int) : Option α := (ixJ xs.length i).bind fun j => xs[j]?
def setO {α : Type} (xs : List α) (i : Int) (x : α) : Option (List α) := (ixJ xs.length i).map fun j => xs.set j x
def appO {α : Type} (xs : List α) (x : α) : Option (List α) := if xs.length < LIM then some (xs ++ [x]) else none
def catO {α : Type} (xs ys : List α) : Option (List α) := if xs.length + ys.length ≤ LIM then some (xs ++ ys) else none
def rng (a b : Int) : List Int := (List.range (b - a).toNat).map fun (i : Nat) => a + (i : Int)
def rngO (a b : Int) : Option (List Int) := if -(2 ^ 61) < a ∧ a < 2 ^ 61 ∧ -(2 ^ 61) < b ∧ b < 2 ^ 61 ∧ b - a ≤ 1000000 then some (rng a b) else none
def sIx (n d : Nat) : Option Int → Nat
  | none => d
  | some v => if v < 0 then (v + (n : Int)).toNat else min v.toNat n
def cut {α : Type} (xs : List α) (lo hi : Option Int) : List α := (xs.drop (sIx xs.length 0 lo)).take (sIx xs.length xs.length hi - sIx xs.length 0 lo)
def forO {α σ ρ : Type} : List α → σ → (α → σ → Option (Fl σ ρ)) → Option (Fl σ ρ)
  | [], s, _ => some (.next s)
  | x :: xs, s, f => (f x s).bind fun
    | .next s' => forO xs s' f
    | .ret r => some (.ret r)
def whileO {σ ρ : Type} : Nat → σ → (σ → Option Bool) → (σ → Option (Fl σ ρ)) → Option (Fl σ ρ)
  | 0, _, _, _ => none
  | n + 1, s, c, f => (c s).bind fun
    | false => some (.next s)
    | true => (f s).bind fun
      | .next s' => whileO n s' c f
      | .ret r => some (.ret r)
def FUEL : Nat := 1000000000
def foldO {α σ : Type} : List α → σ → (α → σ → Option σ) → Option σ
  | [], s, _ => some s
  | x :: xs, s, f => (f x s).bind fun s' => foldO xs s' f
def loopO {σ : Type} : Nat → σ → (σ → Option Bool) → (σ → Option σ) → Option σ
  | 0, _, _, _ => none
  | n + 1, s, c, f => (c s).bind fun
    | false => some s
    | true => (f s).bind fun s' => loopO n s' c f
def aft {σ ρ τ : Type} (w : ρ → τ) (k : σ → Option τ) : Fl σ ρ → Option τ
  | .next s => k s
  | .ret r => some (w r)
def afterO {σ ρ τ : Type} (o : Option (Fl σ ρ)) (w : ρ → τ) (k : σ → Option τ) : Option τ := o.bind (aft w k)
theorem iT {α : Type} {c : Bool} {A B : Option α} {r : α} (h : c = true) (k : (if c = true then A else B) = some r) : A = some r := by
  rw [if_pos h] at k
  exact k
theorem iF {α : Type} {c : Bool} {A B : Option α} {r : α} (h : c = false) (k : (if c = true then A else B) = some r) : B = some r := by
  rw [if_neg (by rw [h]; exact Bool.false_ne_true)] at k
  exact k
theorem forO_fold {α σ : Type} {f : α → σ → Option σ} : ∀ {xs : List α} {s s' : σ}, foldO xs s f = some s' → forO xs s (fun x s => (f x s).map fun s' => (.next s' : Fl σ Empty)) = some (.next s')
  | [], s, s', h => by cases h; rfl
  | x :: xs, s, s', h => by
    unfold foldO at h
    cases e : f x s with
    | none => rw [e] at h; cases h
    | some s1 =>
      rw [e] at h
      have h : foldO xs s1 f = some s' := h
      show Option.bind ((f x s).map _) _ = _
      rw [e]
      exact forO_fold h
theorem whileO_loop {σ : Type} {c : σ → Option Bool} {f : σ → Option σ} : ∀ {n : Nat} {s s' : σ}, loopO n s c f = some s' → whileO n s c (fun s => (f s).map fun s' => (.next s' : Fl σ Empty)) = some (.next s')
  | 0, s, s', h => by cases h
  | n + 1, s, s', h => by
    unfold loopO at h
    unfold whileO
    cases e : c s with
    | none => rw [e] at h; cases h
    | some b =>
      rw [e] at h
      cases b with
      | false =>
        have h : some s = some s' := h
        cases h
        rfl
      | true =>
        have h : ((f s).bind fun s' => loopO n s' c f) = some s' := h
        show Option.bind ((f s).map _) _ = _
        cases e2 : f s with
        | none => rw [e2] at h; cases h
        | some s1 =>
          rw [e2] at h
          exact whileO_loop (n := n) h
/-- comprehensions: what each item gives, or nothing -/
def filS {α β σ : Type} : List α → σ → (α → σ → Option (Option β × σ)) → Option (List β × σ)
  | [], s, _ => some ([], s)
  | x :: xs, s, f => (f x s).bind fun p => (filS xs p.2 f).map fun q => (match p.1 with | some y => y :: q.1 | none => q.1, q.2)
def mapO {α β : Type} : List α → (α → Option β) → Option (List β)
  | [], _ => some []
  | x :: xs, f => (f x).bind fun y => (mapO xs f).map fun ys => y :: ys
def filO {α β : Type} : List α → (α → Option (Option β)) → Option (List β)
  | [], _ => some []
  | x :: xs, f => (f x).bind fun o => (filO xs f).map fun ys => match o with | some y => y :: ys | none => ys
def mapS {α β σ : Type} : List α → σ → (α → σ → Option (β × σ)) → Option (List β × σ)
  | [], s, _ => some ([], s)
  | x :: xs, s, f => (f x s).bind fun p => (mapS xs p.2 f).map fun q => (p.1 :: q.1, q.2)
def absI (a : Int) : Int := if a < 0 then -a else a
def minI (i j : Int) : Int := if j < i then j else i
def maxI (i j : Int) : Int := if j > i then j else i
def b2i (k : Bool) : Int := if k then 1 else 0
def lenI {α : Type} (xs : List α) : Int := (xs.length : Int)
def bitsI (a : Int) : Int := if a = 0 then 0 else ((a.natAbs.log2 + 1 : Nat) : Int)
def repO {α : Type} (xs : List α) (n : Int) : Option (List α) := if -(2 ^ 62) < n ∧ n < 2 ^ 62 ∧ xs.length * n.toNat ≤ LIM then some (List.replicate n.toNat xs).flatten else none
theorem bE {α β : Type} {o : Option α} {f : α → Option β} {r : β} (h : o.bind f = some r) : ∃ x, o = some x ∧ f x = some r := by
  cases o with
  | none => cases h
  | some x => exact ⟨x, rfl, h⟩
theorem aE {σ ρ τ : Type} {o : Option (Fl σ ρ)} {w : ρ → τ} {k : σ → Option τ} {r : τ} (h : afterO o w k = some r) : ∃ fl, o = some fl ∧ aft w k fl = some r := bE h
theorem mE {α β : Type} {o : Option α} {f : α → β} {r : β} (h : o.map f = some r) : ∃ x, o = some x ∧ f x = r := by
  cases o with
  | none => cases h
  | some x => exact ⟨x, rfl, Option.some.inj h⟩
theorem mulO_ok {a b r : Int} (h : mulO a b = some r) : r = a * b ∧ (smallI a ∨ smallI b ∨ (a.natAbs < 2 ^ 400000 ∧ b.natAbs < 2 ^ 400000)) := by
  unfold mulO at h
  split at h
  next k => exact ⟨(Option.some.inj h).symm, k.imp id (Or.imp id fun k => ⟨of_BIG k.1, of_BIG k.2⟩)⟩
  next => cases h
theorem modO_ok {a b r : Int} (h : modO a b = some r) : r = a % b ∧ 0 < b := by
  unfold modO at h
  split at h
  next k => exact ⟨(Option.some.inj h).symm, k⟩
  next => cases h
theorem divO_ok {a b r : Int} (h : divO a b = some r) : r = a / b ∧ 0 < b ∧ b.natAbs < 2 ^ 8999 := by
  unfold divO at h
  split at h
  next k => exact ⟨(Option.some.inj h).symm, k.1, of_BIGD k.2⟩
  next => cases h
theorem powO_ok {a b r : Int} (h : powO a b = some r) : r = a ^ b.toNat ∧ 0 ≤ b ∧ b ≤ 1000000 ∧ a.natAbs < 2 ^ 64 := by
  unfold powO at h
  split at h
  next k => exact ⟨(Option.some.inj h).symm, k⟩
  next => cases h
theorem appO_ok {α : Type} {xs ys : List α} {x : α} (h : appO xs x = some ys) : ys = xs ++ [x] ∧ xs.length < 1000000 := by
  unfold appO at h
  split at h
  next k => exact ⟨(Option.some.inj h).symm, k⟩
  next => cases h
theorem catO_ok {α : Type} {xs ys zs : List α} (h : catO xs ys = some zs) : zs = xs ++ ys ∧ xs.length + ys.length ≤ 1000000 := by
  unfold catO at h
  split at h
  next k => exact ⟨(Option.some.inj h).symm, k⟩
  next => cases h
theorem rngO_ok {a b : Int} {r : List Int} (h : rngO a b = some r) : r = rng a b ∧ -(2 ^ 61) < a ∧ a < 2 ^ 61 ∧ -(2 ^ 61) < b ∧ b < 2 ^ 61 ∧ b - a ≤ 1000000 := by
  unfold rngO at h
  split at h
  next k => exact ⟨(Option.some.inj h).symm, k⟩
  next => cases h
theorem rng_length (a b : Int) : (rng a b).length = (b - a).toNat := by simp [rng]
theorem ixJ_lt {n : Nat} {i : Int} {j : Nat} (h : ixJ n i = some j) : j < n := by
  unfold ixJ at h
  split at h
  · split at h
    · cases h; omega
    · cases h
  · split at h
    · cases h; omega
    · cases h
theorem setO_ok {α : Type} {xs ys : List α} {i : Int} {x : α} (h : setO xs i x = some ys) : ∃ j, ixJ xs.length i = some j ∧ ys = xs.set j x := by
  obtain ⟨j, h1, h2⟩ := mE h
  exact ⟨j, h1, h2.symm⟩
theorem ixO_ok {α : Type} {xs : List α} {i : Int} {x : α} (h : ixO xs i = some x) : ∃ j, ixJ xs.length i = some j ∧ xs[j]? = some x := bE h
theorem cut_length {α : Type} (xs : List α) (lo hi : Option Int) : (cut xs lo hi).length ≤ xs.length := by
  unfold cut
  rw [List.length_take, List.length_drop]
  omega
/-! ### sorted(set(xs)) -/
def insS (x : Int) : List Int → List Int
  | [] => [x]
  | y :: ys => if x < y then x :: y :: ys else if x = y then y :: ys else y :: insS x ys
def sset : List Int → List Int
  | [] => []
  | x :: xs => insS x (sset xs)
def ssetO (xs : List Int) : Option (List Int) := if xs.length ≤ 4000 then some (sset xs) else none
theorem insS_mem {x k : Int} : ∀ {l : List Int}, k ∈ insS x l ↔ k = x ∨ k ∈ l
  | [] => by simp [insS]
  | y :: ys => by
    unfold insS
    split
    · simp
    · split
      · next h => subst h; simp
      · rw [List.mem_cons, insS_mem (l := ys), List.mem_cons]
        constructor
        · rintro (h | h | h)
          · exact .inr (.inl h)
          · exact .inl h
          · exact .inr (.inr h)
        · rintro (h | h | h)
          · exact .inr (.inl h)
          · exact .inl h
          · exact .inr (.inr h)
theorem insS_pw {x : Int} : ∀ {l : List Int}, l.Pairwise (· < ·) → (insS x l).Pairwise (· < ·)
  | [], _ => by simp [insS]
  | y :: ys, h => by
    obtain ⟨h1, h2⟩ := List.pairwise_cons.mp h
    unfold insS
    split
    · next hx =>
      refine List.pairwise_cons.mpr ⟨fun z hz => ?_, h⟩
      rcases List.mem_cons.mp hz with e | e
      · omega
      · have := h1 z e
        omega
    · split
      · exact h
      · next hx hy =>
        refine List.pairwise_cons.mpr ⟨fun z hz => ?_, insS_pw h2⟩
        rcases insS_mem.mp hz with e | e
        · omega
        · exact h1 z e
theorem sset_pw : ∀ xs : List Int, (sset xs).Pairwise (· < ·)
  | [] => List.Pairwise.nil
  | _ :: xs => insS_pw (sset_pw xs)
theorem sset_mem {k : Int} : ∀ {xs : List Int}, k ∈ sset xs ↔ k ∈ xs
  | [] => Iff.rfl
  | x :: xs => by
    unfold sset
    rw [insS_mem, sset_mem (xs := xs), List.mem_cons]
theorem sorted_unique : ∀ {xs ys : List Int}, xs.Pairwise (· < ·) → ys.Pairwise (· < ·) → (∀ k, k ∈ xs ↔ k ∈ ys) → xs = ys
  | [], [], _, _, _ => rfl
  | [], y :: ys, _, _, h => absurd ((h y).mpr (List.mem_cons_self ..)) (by simp)
  | x :: xs, [], _, _, h => absurd ((h x).mp (List.mem_cons_self ..)) (by simp)
  | x :: xs, y :: ys, hx, hy, h => by
    obtain ⟨x1, x2⟩ := List.pairwise_cons.mp hx
    obtain ⟨y1, y2⟩ := List.pairwise_cons.mp hy
    have e : x = y := by
      rcases List.mem_cons.mp ((h x).mp (List.mem_cons_self ..)) with a | a
      · exact a
      · rcases List.mem_cons.mp ((h y).mpr (List.mem_cons_self ..)) with b | b
        · exact b.symm
        · have := y1 x a
          have := x1 y b
          omega
    subst e
    have t : ∀ k, k ∈ xs ↔ k ∈ ys := fun k => by
      have hk := h k
      rw [List.mem_cons, List.mem_cons] at hk
      constructor
      · intro a
        rcases hk.mp (.inr a) with b | b
        · have := x1 k a
          omega
        · exact b
      · intro a
        rcases hk.mpr (.inr a) with b | b
        · have := y1 k a
          omega
        · exact b
    rw [sorted_unique x2 y2 t]
theorem ssetO_ok {xs ys : List Int} (h : ssetO xs = some ys) : xs.length ≤ 4000 ∧ ys.Pairwise (· < ·) ∧ ∀ k, k ∈ ys ↔ k ∈ xs := by
  unfold ssetO at h
  split at h
  next k =>
    cases h
    exact ⟨k, sset_pw xs, fun k => sset_mem⟩
  next => cases h
/-! ### sorted(xs) -/
def insT (x : Int) : List Int → List Int
  | [] => [x]
  | y :: ys => if x ≤ y then x :: y :: ys else y :: insT x ys
def isrt : List Int → List Int
  | [] => []
  | x :: xs => insT x (isrt xs)
theorem insT_perm (x : Int) : ∀ l : List Int, (insT x l).Perm (x :: l)
  | [] => List.Perm.refl _
  | y :: ys => by
    unfold insT
    split
    · exact List.Perm.refl _
    · exact ((insT_perm x ys).cons y).trans (List.Perm.swap x y ys)
theorem isrt_perm : ∀ xs : List Int, (isrt xs).Perm xs
  | [] => List.Perm.refl _
  | x :: xs => (insT_perm x _).trans ((isrt_perm xs).cons x)
theorem insT_pw {x : Int} : ∀ {l : List Int}, l.Pairwise (· ≤ ·) → (insT x l).Pairwise (· ≤ ·)
  | [], _ => by simp [insT]
  | y :: ys, h => by
    obtain ⟨h1, h2⟩ := List.pairwise_cons.mp h
    unfold insT
    split
    · next hx =>
      refine List.pairwise_cons.mpr ⟨fun z hz => ?_, h⟩
      rcases List.mem_cons.mp hz with e | e
      · omega
      · have := h1 z e
        omega
    · next hx =>
      refine List.pairwise_cons.mpr ⟨fun z hz => ?_, insT_pw h2⟩
      rcases List.mem_cons.mp ((insT_perm x ys).mem_iff.mp hz) with e | e
      · omega
      · exact h1 z e
theorem isrt_pw : ∀ xs : List Int, (isrt xs).Pairwise (· ≤ ·)
  | [] => List.Pairwise.nil
  | _ :: xs => insT_pw (isrt_pw xs)
theorem le_unique : ∀ {xs ys : List Int}, xs.Perm ys → xs.Pairwise (· ≤ ·) → ys.Pairwise (· ≤ ·) → xs = ys
  | [], ys, h, _, _ => h.nil_eq
  | x :: xs, [], h, _, _ => absurd h.length_eq (by simp)
  | x :: xs, y :: ys, h, hx, hy => by
    obtain ⟨x1, x2⟩ := List.pairwise_cons.mp hx
    obtain ⟨y1, y2⟩ := List.pairwise_cons.mp hy
    have e : x = y := by
      rcases List.mem_cons.mp (h.mem_iff.mp (List.mem_cons_self ..)) with a | a
      · exact a
      · rcases List.mem_cons.mp (h.mem_iff.mpr (List.mem_cons_self ..)) with b | b
        · exact b.symm
        · have := y1 x a
          have := x1 y b
          omega
    subst e
    rw [le_unique (List.Perm.cons_inv h) x2 y2]
theorem isrt_unique {xs ys : List Int} (h : ys.Perm xs) (hw : ys.Pairwise (· ≤ ·)) : ys = isrt xs := le_unique (h.trans (isrt_perm xs).symm) hw (isrt_pw xs)
end DL
namespace DL
/-! ### more words -/
def appNO {α : Type} (xss : List (List α)) (i : Int) (x : α) : Option (List (List α)) := (ixJ xss.length i).bind fun j => (xss[j]?).bind fun xs => (appO xs x).map fun ys => xss.set j ys
def pushO {α : Type} (xss : List α) (xs : α) : Option (List α) := appO xss xs
def popO {α : Type} (xs : List α) (i : Int) : Option (α × List α) := if -(2 ^ 63) ≤ i ∧ i < 2 ^ 63 then (ixJ xs.length i).bind fun j => (xs[j]?).map fun x => (x, xs.eraseIdx j) else none
def popL {α : Type} (xs : List α) : Option (α × List α) := (xs[xs.length - 1]?).map fun x => (x, xs.dropLast)
def insO {α : Type} (xs : List α) (i : Int) (x : α) : Option (List α) := if 0 ≤ i ∧ i < 2 ^ 63 ∧ xs.length < LIM then some (xs.take i.toNat ++ [x] ++ xs.drop i.toNat) else none
def remO (xs : List Int) (x : Int) : Option (List Int) := if x ∈ xs then some (xs.erase x) else none
def idxO (xs : List Int) (x : Int) : Option Int := if x ∈ xs then some ((xs.idxOf x : Nat) : Int) else none
def maxL : List Int → Option Int
  | [] => none
  | x :: xs => some (xs.foldl max x)
def minL : List Int → Option Int
  | [] => none
  | x :: xs => some (xs.foldl min x)
/-- pairs by order -/
def leP (x y : T2 Int Int) : Bool := decide (x.a < y.a) || (decide (x.a = y.a) && decide (x.b ≤ y.b))
def insP (x : T2 Int Int) : List (T2 Int Int) → List (T2 Int Int)
  | [] => [x]
  | y :: ys => if leP x y = true then x :: y :: ys else y :: insP x ys
def isrtP : List (T2 Int Int) → List (T2 Int Int)
  | [] => []
  | x :: xs => insP x (isrtP xs)
theorem leP_iff {x y : T2 Int Int} : leP x y = true ↔ x.a < y.a ∨ (x.a = y.a ∧ x.b ≤ y.b) := by simp [leP]
theorem leP_no {x y : T2 Int Int} : ¬ leP x y = true → leP y x = true := fun h => by
  rw [leP_iff] at h ⊢
  omega
theorem leP_trans {x y z : T2 Int Int} (h : leP x y = true) (k : leP y z = true) : leP x z = true := by
  rw [leP_iff] at h k ⊢
  omega
theorem leP_anti {x y : T2 Int Int} (h : leP x y = true) (k : leP y x = true) : x = y := by
  rw [leP_iff] at h k
  cases x
  cases y
  simp only at h k
  simp only [T2.mk.injEq]
  omega
theorem insP_perm (x : T2 Int Int) : ∀ l : List (T2 Int Int), (insP x l).Perm (x :: l)
  | [] => List.Perm.refl _
  | y :: ys => by
    unfold insP
    split
    · exact List.Perm.refl _
    · exact ((insP_perm x ys).cons y).trans (List.Perm.swap x y ys)
theorem isrtP_perm : ∀ xs : List (T2 Int Int), (isrtP xs).Perm xs
  | [] => List.Perm.refl _
  | x :: xs => (insP_perm x _).trans ((isrtP_perm xs).cons x)
theorem insP_pw {x : T2 Int Int} : ∀ {l : List (T2 Int Int)}, l.Pairwise (fun a b => leP a b = true) → (insP x l).Pairwise (fun a b => leP a b = true)
  | [], _ => by simp [insP]
  | y :: ys, h => by
    obtain ⟨h1, h2⟩ := List.pairwise_cons.mp h
    unfold insP
    split
    · next hx =>
      refine List.pairwise_cons.mpr ⟨fun z hz => ?_, h⟩
      rcases List.mem_cons.mp hz with e | e
      · rw [e]; exact hx
      · exact leP_trans hx (h1 z e)
    · next hx =>
      refine List.pairwise_cons.mpr ⟨fun z hz => ?_, insP_pw h2⟩
      rcases List.mem_cons.mp ((insP_perm x ys).mem_iff.mp hz) with e | e
      · rw [e]; exact leP_no hx
      · exact h1 z e
theorem isrtP_pw : ∀ xs : List (T2 Int Int), (isrtP xs).Pairwise (fun a b => leP a b = true)
  | [] => List.Pairwise.nil
  | _ :: xs => insP_pw (isrtP_pw xs)
theorem leP_unique : ∀ {xs ys : List (T2 Int Int)}, xs.Perm ys → xs.Pairwise (fun a b => leP a b = true) → ys.Pairwise (fun a b => leP a b = true) → xs = ys
  | [], ys, h, _, _ => h.nil_eq
  | x :: xs, [], h, _, _ => absurd h.length_eq (by simp)
  | x :: xs, y :: ys, h, hx, hy => by
    obtain ⟨x1, x2⟩ := List.pairwise_cons.mp hx
    obtain ⟨y1, y2⟩ := List.pairwise_cons.mp hy
    have e : x = y := by
      rcases List.mem_cons.mp (h.mem_iff.mp (List.mem_cons_self ..)) with a | a
      · exact a
      · rcases List.mem_cons.mp (h.mem_iff.mpr (List.mem_cons_self ..)) with b | b
        · exact b.symm
        · exact leP_anti (x1 y b) (y1 x a)
    subst e
    rw [leP_unique (List.perm_cons x |>.mp h) x2 y2]
end DL
namespace DL
/-! ### dicts with numbers as keys -/
structure Dc (α : Type) where
  l : List (T2 Int α)
def atDl {α : Type} (k : Int) : List (T2 Int α) → Option α
  | [] => none
  | x :: xs => if x.a = k then some x.b else atDl k xs
def putDl {α : Type} (k : Int) (v : α) : List (T2 Int α) → List (T2 Int α)
  | [] => [T2.mk k v]
  | x :: xs => if x.a = k then T2.mk k v :: xs else x :: putDl k v xs
def atD {α : Type} (d : Dc α) (k : Int) : Option α := atDl k d.l
def getD {α : Type} (d : Dc α) (k : Int) (v : α) : α := (atD d k).getD v
def putD {α : Type} (d : Dc α) (k : Int) (v : α) : Option (Dc α) := if d.l.length < LIM then some ⟨putDl k v d.l⟩ else none
def dropD {α : Type} (d : Dc α) (k : Int) : Dc α := ⟨d.l.filter fun x => decide (x.a ≠ k)⟩
def popD {α : Type} (d : Dc α) (k : Int) : Option (α × Dc α) := (atD d k).map fun x => (x, dropD d k)
def keysD {α : Type} (d : Dc α) : List Int := d.l.map fun x => x.a
def valsD {α : Type} (d : Dc α) : List α := d.l.map fun x => x.b
def lenD {α : Type} (d : Dc α) : Int := (d.l.length : Int)
def hasD {α : Type} (d : Dc α) (k : Int) : Bool := (atD d k).isSome
def emptyD {α : Type} : Dc α := ⟨[]⟩
/-- keys once each -/
def NdD {α : Type} (d : Dc α) : Prop := (keysD d).Nodup
end DL
namespace DL
def unitO (n : Int) : Option Int := if 0 ≤ n ∧ n < 17 then some (10 ^ n.toNat) else none
end DL
namespace DL
/-- a tuple of one or of two -/
structure T12 (α β : Type) where
  a : α
  b : Option β
  deriving DecidableEq, Repr
def len12 {α β : Type} (x : T12 α β) : Int := if x.b.isSome = true then 2 else 1
def unl2O {α : Type} : List α → Option (T2 α α)
  | [a, b] => some ⟨a, b⟩
  | _ => none
def unl3O {α : Type} : List α → Option (T3 α α α)
  | [a, b, c] => some ⟨a, b, c⟩
  | _ => none
end DL
namespace DL
/-- a written word -/
structure Wd where
  s : String
  deriving DecidableEq, Repr
end DL
end
section
namespace DL
open PySem PySem.Spec PyProof.Rows L2

/-! ### growth of heaps -/
def Ex (H H' : Hp) : Prop := ∀ a o, H a = some o → H' a = some o
theorem Ex.refl (H : Hp) : Ex H H := fun _ _ h => h
theorem Ex.trans {H H1 H2 : Hp} (a : Ex H H1) (b : Ex H1 H2) : Ex H H2 := fun x o h => b x o (a x o h)
theorem Ex.new {H : Hp} {p : Addr} {o : HO} (h : H p = none) : Ex H (upd H p o) := fun a u e => by
  rw [upd_ne (ne_of_none e h)]
  exact e
theorem Ex.mut {H H' : Hp} {p : Addr} {o : HO} (e : Ex H H') (h : H p = none) : Ex H (upd H' p o) := fun a u ha => by
  rw [upd_ne (ne_of_none ha h)]
  exact e a u ha
theorem Ex.none {H H' : Hp} {p : Addr} (e : Ex H H') (h : H' p = none) : H p = none := by
  cases q : H p with
  | none => rfl
  | some o =>
    rw [e p o q] at h
    cases h

/-! ### what values stand for -/
class Rp (α : Type) where
  rp : Hp → V → α → Prop
  mono : ∀ {G G' : Hp} {v : V} {x : α}, Ex G G' → rp G v x → rp G' v x
open Rp (rp)
structure Dyn where
  P : Hp → V → Prop
  mono : ∀ {G G' : Hp} {v : V}, Ex G G' → P G v → P G' v
def dy {α : Type} [Rp α] (x : α) : Dyn := ⟨fun G v => rp G v x, fun e h => Rp.mono e h⟩
def dyA (a : Addr) : Dyn := ⟨fun _ v => v = .ref a, fun _ h => h⟩
instance : Rp Int := ⟨fun _ v x => v = .int x, fun _ h => h⟩
instance : Rp Bool := ⟨fun _ v x => v = .bl x, fun _ h => h⟩
instance : Rp Str := ⟨fun _ v x => v = .str x, fun _ h => h⟩
instance : Rp Unit := ⟨fun _ v _ => v = .non, fun _ h => h⟩
def rpO {α : Type} [Rp α] (G : Hp) (v : V) : Option α → Prop
  | none => v = .non
  | some x => rp G v x
instance {α : Type} [Rp α] : Rp (Option α) := ⟨rpO, fun {G G' v x} e h => by
  cases x with
  | none => exact h
  | some x => exact Rp.mono (α := α) e h⟩
def RpL {α : Type} [Rp α] (G : Hp) : List V → List α → Prop
  | [], [] => True
  | v :: vs, x :: xs => rp G v x ∧ RpL G vs xs
  | _, _ => False
theorem RpL.mono {α : Type} [Rp α] {G G' : Hp} (e : Ex G G') : ∀ {vs : List V} {xs : List α}, RpL G vs xs → RpL G' vs xs
  | [], [], _ => trivial
  | _ :: _, _ :: _, ⟨h, t⟩ => ⟨Rp.mono e h, RpL.mono e t⟩
  | [], _ :: _, h => h.elim
  | _ :: _, [], h => h.elim
theorem RpL.length {α : Type} [Rp α] {G : Hp} : ∀ {vs : List V} {xs : List α}, RpL G vs xs → vs.length = xs.length
  | [], [], _ => rfl
  | _ :: _, _ :: _, ⟨_, t⟩ => congrArg (· + 1) (RpL.length t)
  | [], _ :: _, h => h.elim
  | _ :: _, [], h => h.elim
theorem RpL.get {α : Type} [Rp α] {G : Hp} : ∀ {vs : List V} {xs : List α} {i : Nat} {x : α}, RpL G vs xs → xs[i]? = some x → ∃ v, vs[i]? = some v ∧ rp G v x
  | [], [], _, _, _, e => by simp at e
  | v :: _, _ :: _, 0, _, ⟨h, _⟩, e => by
    have e := Option.some.inj e
    subst e
    exact ⟨v, rfl, h⟩
  | _ :: _, _ :: _, i + 1, _, ⟨_, t⟩, e => RpL.get (i := i) t e
  | [], _ :: _, _, _, h, _ => h.elim
  | _ :: _, [], _, _, h, _ => h.elim
theorem RpL.get' {α : Type} [Rp α] {G : Hp} : ∀ {vs : List V} {xs : List α} {i : Nat} {v : V}, RpL G vs xs → vs[i]? = some v → ∃ x, xs[i]? = some x ∧ rp G v x
  | [], [], _, _, _, e => by simp at e
  | _ :: _, x :: _, 0, _, ⟨h, _⟩, e => by
    have e := Option.some.inj e
    subst e
    exact ⟨x, rfl, h⟩
  | _ :: _, _ :: _, i + 1, _, ⟨_, t⟩, e => RpL.get' (i := i) t e
  | [], _ :: _, _, _, h, _ => h.elim
  | _ :: _, [], _, _, h, _ => h.elim
theorem RpL.append {α : Type} [Rp α] {G : Hp} : ∀ {vs ws : List V} {xs ys : List α}, RpL G vs xs → RpL G ws ys → RpL G (vs ++ ws) (xs ++ ys)
  | [], _, [], _, _, h => h
  | _ :: _, _, _ :: _, _, ⟨h, t⟩, k => ⟨h, RpL.append t k⟩
  | [], _, _ :: _, _, h, _ => h.elim
  | _ :: _, _, [], _, h, _ => h.elim
theorem RpL.set {α : Type} [Rp α] {G : Hp} {v : V} {x : α} (k : rp G v x) : ∀ {vs : List V} {xs : List α} (i : Nat), RpL G vs xs → RpL G (vs.set i v) (xs.set i x)
  | [], [], _, _ => trivial
  | _ :: _, _ :: _, 0, ⟨_, t⟩ => ⟨k, t⟩
  | _ :: _, _ :: _, i + 1, ⟨h, t⟩ => ⟨h, RpL.set k i t⟩
  | [], _ :: _, _, h => h.elim
  | _ :: _, [], _, h => h.elim
theorem RpL.take {α : Type} [Rp α] {G : Hp} : ∀ {vs : List V} {xs : List α} (n : Nat), RpL G vs xs → RpL G (vs.take n) (xs.take n)
  | [], [], n, _ => by simp [List.take_nil]; trivial
  | _ :: _, _ :: _, 0, _ => trivial
  | _ :: _, _ :: _, n + 1, ⟨h, t⟩ => ⟨h, RpL.take n t⟩
  | [], _ :: _, _, h => h.elim
  | _ :: _, [], _, h => h.elim
theorem RpL.drop {α : Type} [Rp α] {G : Hp} : ∀ {vs : List V} {xs : List α} (n : Nat), RpL G vs xs → RpL G (vs.drop n) (xs.drop n)
  | [], [], n, _ => by simp [List.drop_nil]; trivial
  | _ :: _, _ :: _, 0, h => h
  | _ :: _, _ :: _, n + 1, ⟨_, t⟩ => RpL.drop n t
  | [], _ :: _, _, h => h.elim
  | _ :: _, [], _, h => h.elim
theorem RpL.ints {G : Hp} : ∀ {vs : List V} {xs : List Int}, RpL G vs xs → vs = xs.map V.int
  | [], [], _ => rfl
  | _ :: _, _ :: _, ⟨h, t⟩ => by
    cases h
    rw [List.map_cons, ← RpL.ints t]
  | [], _ :: _, h => h.elim
  | _ :: _, [], h => h.elim
theorem RpL.ofInts {G : Hp} : ∀ {xs : List Int}, RpL G (xs.map V.int) xs
  | [] => trivial
  | _ :: _ => ⟨rfl, RpL.ofInts⟩
theorem RpL.bools {G : Hp} : ∀ {vs : List V} {xs : List Bool}, RpL G vs xs → vs = xs.map V.bl
  | [], [], _ => rfl
  | _ :: _, _ :: _, ⟨h, t⟩ => by
    cases h
    rw [List.map_cons, ← RpL.bools t]
  | [], _ :: _, h => h.elim
  | _ :: _, [], h => h.elim
instance {α : Type} [Rp α] : Rp (List α) := ⟨fun G v xs => ∃ a vs, v = .ref a ∧ G a = some (.lst vs) ∧ RpL G vs xs ∧ xs.length ≤ 1000000, fun e ⟨a, vs, h1, h2, h3, h4⟩ => ⟨a, vs, h1, e _ _ h2, h3.mono e, h4⟩⟩
instance {α : Type} [Rp α] : Rp (T1 α) := ⟨fun G v x => ∃ t v1, v = .ref t ∧ G t = some (.tup [v1]) ∧ rp G v1 x.a, fun e ⟨t, v1, h, g, h1⟩ => ⟨t, v1, h, e _ _ g, Rp.mono e h1⟩⟩
instance {α β : Type} [Rp α] [Rp β] : Rp (T2 α β) := ⟨fun G v x => ∃ t v1 v2, v = .ref t ∧ G t = some (.tup [v1, v2]) ∧ rp G v1 x.a ∧ rp G v2 x.b,
  fun e ⟨t, v1, v2, h, g, h1, h2⟩ => ⟨t, v1, v2, h, e _ _ g, Rp.mono e h1, Rp.mono e h2⟩⟩
instance {α β γ : Type} [Rp α] [Rp β] [Rp γ] : Rp (T3 α β γ) := ⟨fun G v x => ∃ t v1 v2 v3, v = .ref t ∧ G t = some (.tup [v1, v2, v3]) ∧ rp G v1 x.a ∧ rp G v2 x.b ∧ rp G v3 x.c,
  fun e ⟨t, v1, v2, v3, h, g, h1, h2, h3⟩ => ⟨t, v1, v2, v3, h, e _ _ g, Rp.mono e h1, Rp.mono e h2, Rp.mono e h3⟩⟩
instance {α β γ δ : Type} [Rp α] [Rp β] [Rp γ] [Rp δ] : Rp (T4 α β γ δ) := ⟨fun G v x => ∃ t v1 v2 v3 v4, v = .ref t ∧ G t = some (.tup [v1, v2, v3, v4]) ∧ rp G v1 x.a ∧ rp G v2 x.b ∧ rp G v3 x.c ∧ rp G v4 x.d,
  fun e ⟨t, v1, v2, v3, v4, h, g, h1, h2, h3, h4⟩ => ⟨t, v1, v2, v3, v4, h, e _ _ g, Rp.mono e h1, Rp.mono e h2, Rp.mono e h3, Rp.mono e h4⟩⟩

/-! ### own cells -/
def Dj (h k : Hp) : Prop := ∀ a, h a = none ∨ k a = none
theorem Dj.symm {h k : Hp} (d : Dj h k) : Dj k h := fun a => (d a).symm
theorem Dj.ne {h k : Hp} {a : Addr} (d : Dj h k) (e : k a ≠ none) : h a = none := (d a).elim id fun z => absurd z e
/-- a thing of one's own: the frozen heap, its own part of the heap, its root -/
structure Cell where
  P : Hp → Hp → Addr → Prop
  mono : ∀ {G G' h : Hp} {a : Addr}, Ex G G' → P G h a → P G' h a
  root : ∀ {G h : Hp} {a : Addr}, P G h a → h a ≠ none
  nt : ∀ {G h : Hp} {a b : Addr} {xs : List V}, P G h a → h b ≠ some (.tup xs)
/-- one object -/
structure Cell1 where
  P : Hp → HO → Prop
  mono : ∀ {G G' : Hp} {o : HO}, Ex G G' → P G o → P G' o
  nt : ∀ {G : Hp} {o : HO} {xs : List V}, P G o → o ≠ .tup xs
def sgl (a : Addr) (o : HO) : Hp := fun b => if b = a then some o else none
theorem sgl_same {a : Addr} {o : HO} : sgl a o a = some o := if_pos rfl
theorem sgl_ne {a b : Addr} {o : HO} (h : b ≠ a) : sgl a o b = none := if_neg h
theorem sgl_ex {a : Addr} {o : HO} {H : Hp} (h : H a = some o) : Ex (sgl a o) H := fun b u e => by
  unfold sgl at e
  split at e
  · next z =>
    subst z
    cases e
    exact h
  · cases e
theorem Dj.sgl {a : Addr} {o : HO} {H : Hp} (h : H a = none) : Dj H (sgl a o) := fun b => by
  by_cases e : b = a
  · exact .inl (e ▸ h)
  · exact .inr (sgl_ne e)
def Cell1.c (c : Cell1) : Cell := ⟨fun G h a => ∃ o, h = sgl a o ∧ c.P G o, fun e ⟨o, h, k⟩ => ⟨o, h, c.mono e k⟩, fun ⟨o, h, k⟩ => (by rw [h, sgl_same]; exact fun z => nomatch z), fun {G h a b xs} ⟨o, e, k⟩ z => by
  rw [e] at z
  unfold DL.sgl at z
  split at z
  · cases z
    exact c.nt k rfl
  · cases z⟩
def cL1 {α : Type} [Rp α] (xs : List α) : Cell1 := ⟨fun G o => ∃ vs, o = .lst vs ∧ RpL G vs xs ∧ xs.length ≤ 1000000, fun e ⟨vs, h, k, l⟩ => ⟨vs, h, k.mono e, l⟩, fun ⟨_, h, _⟩ z => by rw [h] at z; cases z⟩
abbrev cL {α : Type} [Rp α] (xs : List α) : Cell := (cL1 xs).c
abbrev Own := List (Addr × Cell)
structure W (G0 G : Hp) (O : Own) (H : Hp) : Prop where
  base : Ex G0 G
  ex : Ex G H
  fp : ∃ F : Addr → Hp, (∀ a c, (a, c) ∈ O → c.P G (F a) a ∧ Dj G (F a) ∧ Ex (F a) H) ∧ ∀ a c b d, (a, c) ∈ O → (b, d) ∈ O → a ≠ b → Dj (F a) (F b)
  nd : (O.map (·.1)).Nodup
theorem W.start {G0 G : Hp} {O : Own} {H : Hp} (w : W G0 G O H) : W G G O H := ⟨Ex.refl _, w.ex, w.fp, w.nd⟩
theorem W.back {G0 G G2 : Hp} {O O' : Own} {H H' : Hp} (w : W G0 G O H) (w2 : W G G2 O' H') : W G0 G2 O' H' := ⟨w.base.trans w2.base, w2.ex, w2.fp, w2.nd⟩
theorem W.here {G0 G : Hp} {O : Own} {H : Hp} {a : Addr} {c : Cell} (w : W G0 G O H) (m : (a, c) ∈ O) : G a = none ∧ H a ≠ none := by
  obtain ⟨F, h1, h2⟩ := w.fp
  obtain ⟨p, d, e⟩ := h1 a c m
  have r := c.root p
  refine ⟨d.ne r, ?_⟩
  cases q : F a a with
  | none => exact absurd q r
  | some o => rw [e a o q]; exact fun z => nomatch z
theorem W.own {G0 G : Hp} {O : Own} {H : Hp} {a : Addr} {c : Cell1} (w : W G0 G O H) (m : (a, c.c) ∈ O) : G a = none ∧ ∃ o, H a = some o ∧ c.P G o := by
  obtain ⟨F, h1, h2⟩ := w.fp
  obtain ⟨⟨o, p, q⟩, d, e⟩ := h1 a _ m
  exact ⟨(w.here m).1, o, e a o (by rw [p]; exact sgl_same), q⟩
theorem mem_fst {O : Own} {a : Addr} (h : a ∈ O.map (·.1)) : ∃ c, (a, c) ∈ O := by
  obtain ⟨⟨b, c⟩, m, e⟩ := List.mem_map.mp h
  have e : b = a := e
  subst e
  exact ⟨c, m⟩
theorem fst_mem {O : Own} {a : Addr} {c : Cell} (h : (a, c) ∈ O) : a ∈ O.map (·.1) := List.mem_map.mpr ⟨(a, c), h, rfl⟩
/-- a new cell -/
theorem W.alloc {G0 G : Hp} {O : Own} {H : Hp} {p : Addr} {o : HO} {c : Cell1} (w : W G0 G O H) (hp : H p = none) (hc : c.P G o) : W G0 G ((p, c.c) :: O) (upd H p o) := by
  have gp := w.ex.none hp
  have np : ∀ a d, (a, d) ∈ O → a ≠ p := fun a d m e => (w.here m).2 (e ▸ hp)
  obtain ⟨F, h1, h2⟩ := w.fp
  have fp : ∀ a d, (a, d) ∈ O → F a p = none := fun a d m => (h1 a d m).2.2.none hp
  refine ⟨w.base, w.ex.mut gp, ⟨fun a => if a = p then sgl p o else F a, fun a d m => ?_, fun a d b d' m m' ne => ?_⟩, ?_⟩
  · rcases List.mem_cons.mp m with e | m
    · cases e
      simp only [if_true]
      exact ⟨⟨o, rfl, hc⟩, Dj.sgl gp, sgl_ex upd_same⟩
    · simp only [if_neg (np a d m)]
      exact ⟨(h1 a d m).1, (h1 a d m).2.1, (h1 a d m).2.2.mut (fp a d m)⟩
  · rcases List.mem_cons.mp m with e | m
    · cases e
      rcases List.mem_cons.mp m' with e' | m'
      · cases e'
        exact absurd rfl ne
      · simp only [if_true, if_neg (np b d' m')]
        exact (Dj.sgl (fp b d' m')).symm
    · rcases List.mem_cons.mp m' with e' | m'
      · cases e'
        simp only [if_true, if_neg (np a d m)]
        exact Dj.sgl (fp a d m)
      · simp only [if_neg (np a d m), if_neg (np b d' m')]
        exact h2 a d b d' m m' ne
  · rw [List.map_cons, List.nodup_cons]
    refine ⟨fun m => ?_, w.nd⟩
    obtain ⟨c, m⟩ := mem_fst m
    exact np p c m rfl
/-- a new frozen thing -/
theorem W.grow {G0 G : Hp} {O : Own} {H : Hp} {p : Addr} {o : HO} (w : W G0 G O H) (hp : H p = none) : Ex G (upd G p o) ∧ W G0 (upd G p o) O (upd H p o) := by
  have gp := w.ex.none hp
  have e1 : Ex G (upd G p o) := Ex.new gp
  obtain ⟨F, h1, h2⟩ := w.fp
  refine ⟨e1, w.base.trans e1, fun a u h => ?_, ⟨F, fun a d m => ?_, h2⟩, w.nd⟩
  · by_cases e : a = p
    · subst e
      rw [upd_same] at h ⊢
      exact h
    · rw [upd_ne e] at h ⊢
      exact w.ex a u h
  · obtain ⟨k1, k2, k3⟩ := h1 a d m
    refine ⟨d.mono e1 k1, fun b => ?_, k3.mut (k3.none hp)⟩
    by_cases e : b = p
    · exact .inr (e ▸ k3.none hp)
    · rw [upd_ne e]
      exact k2 b
/-- an own cell is frozen -/
theorem W.freeze {G0 G : Hp} {O : Own} {H : Hp} {p : Addr} {c : Cell1} (w : W G0 G ((p, c.c) :: O) H) : ∃ o, c.P G o ∧ Ex G (upd G p o) ∧ W G0 (upd G p o) O H := by
  obtain ⟨gp, o, hp, ho⟩ := w.own (List.mem_cons_self ..)
  have e1 : Ex G (upd G p o) := Ex.new gp
  have nd := w.nd
  rw [List.map_cons, List.nodup_cons] at nd
  obtain ⟨F, h1, h2⟩ := w.fp
  refine ⟨o, ho, e1, w.base.trans e1, fun a u h => ?_, ⟨F, fun a d m => ?_, fun a d b d' m m' => h2 a d b d' (List.mem_cons_of_mem _ m) (List.mem_cons_of_mem _ m')⟩, nd.2⟩
  · by_cases e : a = p
    · subst e
      rw [upd_same] at h
      cases h
      exact hp
    · rw [upd_ne e] at h
      exact w.ex a u h
  · obtain ⟨k1, k2, k3⟩ := h1 a d (List.mem_cons_of_mem _ m)
    refine ⟨d.mono e1 k1, fun b => ?_, k3⟩
    by_cases e : b = p
    · subst e
      have ne : a ≠ b := fun e => nd.1 (e ▸ fst_mem m)
      obtain ⟨⟨u, q, _⟩, _, _⟩ := h1 b _ (List.mem_cons_self ..)
      exact .inr ((h2 a d b _ (List.mem_cons_of_mem _ m) (List.mem_cons_self ..) ne).ne (by rw [q, sgl_same]; exact fun z => nomatch z))
    · rw [upd_ne e]
      exact k2 b
theorem W.freezeL {α : Type} [Rp α] {G0 G : Hp} {O : Own} {H : Hp} {p : Addr} {xs : List α} (w : W G0 G ((p, cL xs) :: O) H) : ∃ G2, Ex G G2 ∧ W G0 G2 O H ∧ rp G2 (.ref p) xs := by
  obtain ⟨o, ⟨vs, rfl, hv, hl⟩, e, w2⟩ := w.freeze
  exact ⟨_, e, w2, p, vs, rfl, upd_same, hv.mono e, hl⟩
theorem W.get {G0 G : Hp} {O : Own} {H : Hp} {k : Nat} {a : Addr} {c : Cell1} (w : W G0 G O H) (h : O[k]? = some (a, c.c)) : G a = none ∧ ∃ o, H a = some o ∧ c.P G o := w.own (List.mem_of_getElem? h)
theorem set_cases {O : Own} {k : Nat} {a : Addr} {c c' : Cell} (nd : (O.map (·.1)).Nodup) (h : O[k]? = some (a, c)) {b : Addr} {d : Cell} (m : (b, d) ∈ O.set k (a, c')) : (b = a ∧ d = c') ∨ (b ≠ a ∧ (b, d) ∈ O) := by
  obtain ⟨hk, hk2⟩ := List.getElem?_eq_some_iff.mp h
  obtain ⟨j, hj⟩ := List.mem_iff_getElem?.mp m
  by_cases e : j = k
  · subst e
    rw [List.getElem?_set_self hk] at hj
    cases hj
    exact .inl ⟨rfl, rfl⟩
  · rw [List.getElem?_set_ne (fun z => e z.symm)] at hj
    refine .inr ⟨fun z => ?_, List.mem_of_getElem? hj⟩
    obtain ⟨hj1, hj2⟩ := List.getElem?_eq_some_iff.mp hj
    have q : (O.map (·.1))[j]'(by simpa using hj1) = (O.map (·.1))[k]'(by simpa using hk) := by
      rw [List.getElem_map, List.getElem_map, hj2, hk2]
      exact z
    exact e ((List.getElem_inj nd).mp q)
theorem set_fst {O : Own} {k : Nat} {a : Addr} {c c' : Cell} (h : O[k]? = some (a, c)) : (O.set k (a, c')).map (·.1) = O.map (·.1) := by
  obtain ⟨hk, _⟩ := List.getElem?_eq_some_iff.mp h
  rw [List.map_set]
  apply List.ext_getElem?
  intro j
  by_cases e : k = j
  · subst e
    rw [List.getElem?_set_self (by simpa using hk), List.getElem?_map, h]
    rfl
  · rw [List.getElem?_set_ne e]
/-- an own cell is written -/
theorem W.put {G0 G : Hp} {O : Own} {H : Hp} {k : Nat} {a : Addr} {c c' : Cell1} {o : HO} (w : W G0 G O H) (h : O[k]? = some (a, c.c)) (hc : c'.P G o) : W G0 G (O.set k (a, c'.c)) (upd H a o) := by
  obtain ⟨g, _⟩ := w.get h
  have ma := List.mem_of_getElem? h
  obtain ⟨F, h1, h2⟩ := w.fp
  have fa : F a a ≠ none := c.c.root (h1 a _ ma).1
  have other : ∀ b d, (b, d) ∈ O → b ≠ a → F b a = none := fun b d m ne => (h2 b d a _ m ma ne).ne fa
  refine ⟨w.base, w.ex.mut g, ⟨fun b => if b = a then sgl a o else F b, fun b d m => ?_, fun b d b' d' m m' ne => ?_⟩, ?_⟩
  · rcases set_cases w.nd h m with ⟨e1, e2⟩ | ⟨ne, m⟩
    · subst e1
      subst e2
      simp only [if_true]
      exact ⟨⟨o, rfl, hc⟩, Dj.sgl g, sgl_ex upd_same⟩
    · simp only [if_neg ne]
      exact ⟨(h1 b d m).1, (h1 b d m).2.1, (h1 b d m).2.2.mut (other b d m ne)⟩
  · rcases set_cases w.nd h m with ⟨e1, e2⟩ | ⟨n1, m1⟩
    · subst e1
      rcases set_cases w.nd h m' with ⟨e3, _⟩ | ⟨n2, m2⟩
      · exact absurd e3.symm ne
      · simp only [if_true, if_neg n2]
        exact (Dj.sgl (other b' d' m2 n2)).symm
    · rcases set_cases w.nd h m' with ⟨e3, _⟩ | ⟨n2, m2⟩
      · subst e3
        simp only [if_true, if_neg n1]
        exact Dj.sgl (other b d m1 n1)
      · simp only [if_neg n1, if_neg n2]
        exact h2 b d b' d' m1 m2 ne
  · rw [set_fst h]
    exact w.nd
theorem W.sub {G0 G : Hp} {O O' : Own} {H : Hp} (w : W G0 G O H) (h : ∀ p ∈ O', p ∈ O) (nd : (O'.map (·.1)).Nodup) : W G0 G O' H := by
  obtain ⟨F, h1, h2⟩ := w.fp
  exact ⟨w.base, w.ex, ⟨F, fun a c m => h1 a c (h _ m), fun a c b d m m' => h2 a c b d (h _ m) (h _ m')⟩, nd⟩
/-- an own cell is forgotten -/
theorem W.drop {G0 G : Hp} {O : Own} {H : Hp} {p : Addr × Cell} (w : W G0 G (p :: O) H) : W G0 G O H := w.sub (fun q m => List.mem_cons_of_mem _ m) (by
  have nd := w.nd
  rw [List.map_cons, List.nodup_cons] at nd
  exact nd.2)
theorem W.exh {G0 G H H' : Hp} {O : Own} (w : W G0 G O H) (e : Ex H H') : W G0 G O H' := by
  obtain ⟨F, h1, h2⟩ := w.fp
  exact ⟨w.base, w.ex.trans e, ⟨F, fun a c m => ⟨(h1 a c m).1, (h1 a c m).2.1, (h1 a c m).2.2.trans e⟩, h2⟩, w.nd⟩
theorem W.up {G0 G1 G H : Hp} {O : Own} (e : Ex G0 G1) (w : W G1 G O H) : W G0 G O H := ⟨e.trans w.base, w.ex, w.fp, w.nd⟩
theorem W.perm {G0 G H : Hp} {O O' : Own} (p : O.Perm O') (w : W G0 G O H) : W G0 G O' H := w.sub (fun q m => p.mem_iff.mpr m) ((p.map (·.1)).nodup_iff.mp w.nd)
theorem W.junk {G0 G : Hp} {O : Own} {H : Hp} {p : Addr} {o : HO} (w : W G0 G O H) (hp : H p = none) : W G0 G O (upd H p o) := w.exh (Ex.new hp)
theorem W.nil {G0 G H : Hp} (a : Ex G0 G) (b : Ex G H) : W G0 G [] H := ⟨a, b, ⟨fun _ _ => none, fun _ _ m => by simp at m, fun _ _ _ _ m => by simp at m⟩, List.Pairwise.nil⟩
/-- an own cell that says the same in other words -/
theorem W.conv {G0 G : Hp} {O : Own} {H : Hp} {a : Addr} {c c' : Cell} (w : W G0 G ((a, c) :: O) H) (h : ∀ h, c.P G h a → c'.P G h a) : W G0 G ((a, c') :: O) H := by
  obtain ⟨F, h1, h2⟩ := w.fp
  have back : ∀ b d, (b, d) ∈ (a, c') :: O → ∃ d', (b, d') ∈ (a, c) :: O := fun b d m => by
    rcases List.mem_cons.mp m with e | m
    · cases e
      exact ⟨c, List.mem_cons_self ..⟩
    · exact ⟨d, List.mem_cons_of_mem _ m⟩
  refine ⟨w.base, w.ex, ⟨F, fun b d m => ?_, fun b d b' d' m m' => ?_⟩, w.nd⟩
  · rcases List.mem_cons.mp m with e | m
    · cases e
      obtain ⟨k1, k2, k3⟩ := h1 a c (List.mem_cons_self ..)
      exact ⟨h _ k1, k2, k3⟩
    · exact h1 b d (List.mem_cons_of_mem _ m)
  · obtain ⟨e, me⟩ := back b d m
    obtain ⟨e', me'⟩ := back b' d' m'
    exact h2 b e b' e' me me'

/-! ### slots -/
abbrev Env := List (Option Dyn)
def SlO (G : Hp) : Option V → Option Dyn → Prop
  | _, none => True
  | some v, some d => d.P G v
  | none, some _ => False
def Sl (G : Hp) : L2.St → Env → Prop
  | [], [] => True
  | s :: σ, t :: τ => SlO G s t ∧ Sl G σ τ
  | _, _ => False
theorem SlO.mono {G G' : Hp} (e : Ex G G') : ∀ {s : Option V} {t : Option Dyn}, SlO G s t → SlO G' s t
  | _, none, _ => trivial
  | some _, some d, h => d.mono e h
  | none, some _, h => h
theorem Sl.mono {G G' : Hp} (e : Ex G G') : ∀ {σ : L2.St} {τ : Env}, Sl G σ τ → Sl G' σ τ
  | [], [], _ => trivial
  | _ :: _, _ :: _, ⟨h, t⟩ => ⟨h.mono e, Sl.mono e t⟩
  | [], _ :: _, h => h.elim
  | _ :: _, [], h => h.elim
theorem Sl.get {G : Hp} : ∀ {σ : L2.St} {τ : Env} {i : Nat} {d : Dyn}, Sl G σ τ → τ[i]? = some (some d) → ∃ v, σ[i]? = some (some v) ∧ d.P G v
  | [], [], _, _, _, e => by simp at e
  | s :: _, _ :: _, 0, _, ⟨h, _⟩, e => by
    have e := Option.some.inj e
    subst e
    cases s with
    | none => exact h.elim
    | some v => exact ⟨v, rfl, h⟩
  | _ :: _, _ :: _, i + 1, _, ⟨_, t⟩, e => Sl.get (i := i) t e
  | [], _ :: _, _, _, h, _ => h.elim
  | _ :: _, [], _, _, h, _ => h.elim
theorem Sl.set {G : Hp} {v : V} {d : Dyn} (k : d.P G v) : ∀ {σ : L2.St} {τ : Env} (i : Nat), Sl G σ τ → Sl G (σ.set i (some v)) (τ.set i (some d))
  | [], [], _, _ => trivial
  | _ :: _, _ :: _, 0, ⟨_, t⟩ => ⟨k, t⟩
  | _ :: _, _ :: _, i + 1, ⟨h, t⟩ => ⟨h, Sl.set k i t⟩
  | [], _ :: _, _, h => h.elim
  | _ :: _, [], _, h => h.elim
theorem Sl.non {G : Hp} : ∀ {σ : L2.St} {τ : Env} (i : Nat), Sl G σ τ → Sl G (σ.set i none) (τ.set i none)
  | [], [], _, _ => trivial
  | _ :: _, _ :: _, 0, ⟨_, t⟩ => ⟨trivial, t⟩
  | _ :: _, _ :: _, i + 1, ⟨h, t⟩ => ⟨h, Sl.non i t⟩
  | [], _ :: _, _, h => h.elim
  | _ :: _, [], _, h => h.elim
def wipeT (τ : Env) : List Nat → Env
  | [] => τ
  | v :: vs => (wipeT τ vs).set v none
theorem Sl.wipe {G : Hp} {σ : L2.St} {τ : Env} (h : Sl G σ τ) : ∀ vs : List Nat, Sl G (L2.wipe σ vs) (wipeT τ vs)
  | [] => h
  | v :: vs => Sl.non v (Sl.wipe h vs)
inductive Sub : Env → Env → Prop
  | nil : Sub [] []
  | non {t : Option Dyn} {τ τ' : Env} : Sub τ τ' → Sub (none :: τ) (t :: τ')
  | same {t : Option Dyn} {τ τ' : Env} : Sub τ τ' → Sub (t :: τ) (t :: τ')
theorem Sub.sl {G : Hp} {τ τ' : Env} (u : Sub τ τ') : ∀ {σ : L2.St}, Sl G σ τ' → Sl G σ τ := by
  induction u with
  | nil => exact fun h => h
  | non u ih =>
    intro σ h
    cases σ with
    | nil => exact h.elim
    | cons s σ => exact ⟨trivial, ih h.2⟩
  | same u ih =>
    intro σ h
    cases σ with
    | nil => exact h.elim
    | cons s σ => exact ⟨h.1, ih h.2⟩
theorem Sub.refl : ∀ τ : Env, Sub τ τ
  | [] => .nil
  | _ :: τ => .same (Sub.refl τ)

/-! ### expressions -/
def EvD (te : TE) (τ : Env) (O : Own) (d : Dyn) (O' : Own) : Prop := ∀ (σ : L2.St) (G0 G H : Hp), Sl G σ τ → W G0 G O H → ∀ Q : VK, (∀ (v : V) (G2 H2 : Hp), Ex G G2 → W G0 G2 O' H2 → d.P G2 v → Q v H2) → te σ H Q
abbrev Ev {α : Type} [Rp α] (te : TE) (τ : Env) (O : Own) (x : α) (O' : Own) : Prop := EvD te τ O (dy x) O'
def EvC (te : TE) (τ : Env) (O : Own) (c : Cell) (O' : Own) : Prop := ∀ (σ : L2.St) (G0 G H : Hp), Sl G σ τ → W G0 G O H → ∀ Q : VK, (∀ (l : Addr) (G2 H2 : Hp), Ex G G2 → W G0 G2 ((l, c) :: O') H2 → Q (.ref l) H2) → te σ H Q
abbrev EvN {α : Type} [Rp α] (te : TE) (τ : Env) (O : Own) (xs : List α) (O' : Own) : Prop := EvC te τ O (cL xs) O'
def EvT (tt : TT) (τ : Env) (O : Own) (b : Bool) (O' : Own) : Prop := ∀ (σ : L2.St) (G0 G H : Hp), Sl G σ τ → W G0 G O H → ∀ Q : Bool → Hp → Prop, (∀ (G2 H2 : Hp), Ex G G2 → W G0 G2 O' H2 → Q b H2) → tt σ H Q
def Vs (G : Hp) : List V → List Dyn → Prop
  | [], [] => True
  | v :: vs, d :: ds => d.P G v ∧ Vs G vs ds
  | _, _ => False
theorem Vs.mono {G G' : Hp} (e : Ex G G') : ∀ {vs : List V} {ds : List Dyn}, Vs G vs ds → Vs G' vs ds
  | [], [], _ => trivial
  | _ :: _, d :: _, ⟨h, t⟩ => ⟨d.mono e h, Vs.mono e t⟩
  | [], _ :: _, h => h.elim
  | _ :: _, [], h => h.elim
theorem Vs.length {G : Hp} : ∀ {vs : List V} {ds : List Dyn}, Vs G vs ds → vs.length = ds.length
  | [], [], _ => rfl
  | _ :: _, _ :: _, ⟨_, t⟩ => congrArg (· + 1) (Vs.length t)
  | [], _ :: _, h => h.elim
  | _ :: _, [], h => h.elim
def EvA (ta : TA) (τ : Env) (O : Own) (ds : List Dyn) (O' : Own) : Prop := ∀ (σ : L2.St) (G0 G H : Hp), Sl G σ τ → W G0 G O H → ∀ Q : List V → Hp → Prop, (∀ (vs : List V) (G2 H2 : Hp), Ex G G2 → W G0 G2 O' H2 → Vs G2 vs ds → Q vs H2) → ta σ H Q

section
variable {α β γ δ : Type} [Rp α] [Rp β] [Rp γ] [Rp δ] {K : PySem.W.Frag} {τ : Env} {O O1 O2 O3 O' : Own} {ta tb tc te : TE} {t u : TT} {tr : TA} {d : Dyn} {ds : List Dyn}
theorem EvC.fr {xs : List α} (h : EvN te τ O xs O') : Ev te τ O xs O' := fun σ G0 G H s w Q q => h σ G0 G H s w Q fun l G2 H2 e w2 => by
  obtain ⟨G3, e3, w3, r⟩ := w2.freezeL
  exact q _ G3 H2 (e.trans e3) w3 r
theorem ev_var {i : Nat} (h : τ[i]? = some (some d)) : EvD (tVar i) τ O d O := fun σ G0 G H s w Q q => by
  obtain ⟨v, hv, hd⟩ := s.get h
  exact ⟨v, hv, q v G H (Ex.refl _) w hd⟩
theorem ev_int {n : Int} : Ev (tC (.int n)) τ O n O := fun σ G0 G H s w Q q => q _ G H (Ex.refl _) w rfl
theorem ev_bl {n : Bool} : Ev (tC (.bl n)) τ O n O := fun σ G0 G H s w Q q => q _ G H (Ex.refl _) w rfl
theorem ev_str {n : Str} : Ev (tC (.str n)) τ O n O := fun σ G0 G H s w Q q => q _ G H (Ex.refl _) w rfl
theorem ev_unit : Ev (tC .non) τ O () O := fun σ G0 G H s w Q q => q _ G H (Ex.refl _) w rfl
theorem ev_non : Ev (tC .non) τ O (none : Option α) O := fun σ G0 G H s w Q q => q _ G H (Ex.refl _) w rfl
theorem ev_some {x : α} (h : Ev te τ O x O') : Ev te τ O (some x) O' := h
theorem ev_get {x : α} {o : Option α} (h : Ev te τ O o O') (e : o = some x) : Ev te τ O x O' := by
  rw [e] at h
  exact h
theorem ev_of {x y : α} (h : Ev te τ O x O') (e : x = y) : Ev te τ O y O' := e ▸ h
theorem et_of {x y : Bool} (h : EvT t τ O x O') (e : x = y) : EvT t τ O y O' := e ▸ h
theorem ec_of {xs ys : List α} (h : EvN te τ O xs O') (e : xs = ys) : EvN te τ O ys O' := e ▸ h
theorem ev_I0 {g : Int → Int → Int} {a b : Int} (ha : Ev ta τ O a O1) (hb : Ev tb τ O1 b O2) : Ev (tOp (rI0 fun i j => .int (g i j)) ta tb) τ O (g a b) O2 := fun σ G0 G H s w Q q =>
  ha σ G0 G H s w _ fun v G2 H2 e2 w2 r2 => hb σ G0 G2 H2 (s.mono e2) w2 _ fun v3 G3 H3 e3 w3 r3 => ⟨a, b, r2, r3, q _ G3 H3 (e2.trans e3) w3 rfl⟩
theorem ev_B0 {g : Int → Int → Bool} {a b : Int} (ha : Ev ta τ O a O1) (hb : Ev tb τ O1 b O2) : Ev (tOp (rI0 fun i j => .bl (g i j)) ta tb) τ O (g a b) O2 := fun σ G0 G H s w Q q =>
  ha σ G0 G H s w _ fun v G2 H2 e2 w2 r2 => hb σ G0 G2 H2 (s.mono e2) w2 _ fun v3 G3 H3 e3 w3 r3 => ⟨a, b, r2, r3, q _ G3 H3 (e2.trans e3) w3 rfl⟩
theorem ev_I {C : Int → Int → Prop} {g : Int → Int → Int} {a b : Int} (ha : Ev ta τ O a O1) (hb : Ev tb τ O1 b O2) (hc : C a b) : Ev (tOp (rI C fun i j => .int (g i j)) ta tb) τ O (g a b) O2 := fun σ G0 G H s w Q q =>
  ha σ G0 G H s w _ fun v G2 H2 e2 w2 r2 => hb σ G0 G2 H2 (s.mono e2) w2 _ fun v3 G3 H3 e3 w3 r3 => ⟨a, b, r2, r3, hc, q _ G3 H3 (e2.trans e3) w3 rfl⟩
theorem ev_U {g : Int → Int} {a : Int} (ha : Ev ta τ O a O1) : Ev (tUn (rU fun i => .int (g i)) ta) τ O (g a) O1 := fun σ G0 G H s w Q q =>
  ha σ G0 G H s w _ fun v G2 H2 e2 w2 r2 => ⟨a, r2, q _ G2 H2 e2 w2 rfl⟩
/-- values that == compares without a look into the heap -/
class Sc (α : Type) [Rp α] where
  sc : ∀ {G : Hp} {v u : V} {x y : α}, rp G v x → rp G u y → scal v u = true ∧ (v = u ↔ x = y)
instance : Sc Int := ⟨fun h k => by cases h; cases k; exact ⟨rfl, by simp⟩⟩
instance : Sc Bool := ⟨fun h k => by cases h; cases k; exact ⟨rfl, by simp⟩⟩
instance : Sc Str := ⟨fun h k => by cases h; cases k; exact ⟨rfl, by simp⟩⟩
instance : Sc (Option Int) := ⟨fun {G v u x y} h k => by
  cases x <;> cases y <;> (cases h; cases k; exact ⟨rfl, by simp⟩)⟩
theorem ev_eq [Sc α] [DecidableEq α] {a b : α} (ha : Ev ta τ O a O1) (hb : Ev tb τ O1 b O2) : Ev (tOp rEq ta tb) τ O (decide (a = b)) O2 := fun σ G0 G H s w Q q =>
  ha σ G0 G H s w _ fun v G2 H2 e2 w2 r2 => hb σ G0 G2 H2 (s.mono e2) w2 _ fun v3 G3 H3 e3 w3 r3 => by
    obtain ⟨h1, h2⟩ := Sc.sc (Rp.mono e3 r2) r3
    refine ⟨h1, ?_⟩
    rw [decide_eq_decide.mpr h2]
    exact q _ G3 H3 (e2.trans e3) w3 rfl
theorem ev_ne [Sc α] [DecidableEq α] {a b : α} (ha : Ev ta τ O a O1) (hb : Ev tb τ O1 b O2) : Ev (tOp rNe ta tb) τ O (!decide (a = b)) O2 := fun σ G0 G H s w Q q =>
  ha σ G0 G H s w _ fun v G2 H2 e2 w2 r2 => hb σ G0 G2 H2 (s.mono e2) w2 _ fun v3 G3 H3 e3 w3 r3 => by
    obtain ⟨h1, h2⟩ := Sc.sc (Rp.mono e3 r2) r3
    refine ⟨h1, ?_⟩
    rw [decide_eq_decide.mpr h2]
    exact q _ G3 H3 (e2.trans e3) w3 rfl
/-- is None, is not None -/
class NN (α : Type) [Rp α] where
  nn : ∀ {G : Hp} {v : V} {x : α}, rp G v x → v ≠ .non
instance : NN Int := ⟨fun h => by cases h; exact fun z => nomatch z⟩
instance : NN Bool := ⟨fun h => by cases h; exact fun z => nomatch z⟩
instance : NN Str := ⟨fun h => by cases h; exact fun z => nomatch z⟩
instance : NN (List α) := ⟨fun ⟨_, _, h, _⟩ => by cases h; exact fun z => nomatch z⟩
instance : NN (T1 α) := ⟨fun ⟨_, _, h, _⟩ => by cases h; exact fun z => nomatch z⟩
instance : NN (T2 α β) := ⟨fun ⟨_, _, _, h, _⟩ => by cases h; exact fun z => nomatch z⟩
instance : NN (T3 α β γ) := ⟨fun ⟨_, _, _, _, h, _⟩ => by cases h; exact fun z => nomatch z⟩
instance : NN (T4 α β γ δ) := ⟨fun ⟨_, _, _, _, _, h, _⟩ => by cases h; exact fun z => nomatch z⟩
theorem non_iff [NN α] {G : Hp} {v : V} {o : Option α} (h : rp G v o) : decide (v = .non) = o.isNone := by
  cases o with
  | none =>
    cases h
    rfl
  | some x => exact decide_eq_false (NN.nn (α := α) h)
theorem ev_isN [NN α] {o : Option α} (ha : Ev ta τ O o O1) : Ev (tOp rIsN ta (tC .non)) τ O o.isNone O1 := fun σ G0 G H s w Q q =>
  ha σ G0 G H s w _ fun v G2 H2 e2 w2 r2 => ⟨rfl, by rw [non_iff r2]; exact q _ G2 H2 e2 w2 rfl⟩
theorem ev_notN [NN α] {o : Option α} (ha : Ev ta τ O o O1) : Ev (tOp rNotN ta (tC .non)) τ O o.isSome O1 := fun σ G0 G H s w Q q =>
  ha σ G0 G H s w _ fun v G2 H2 e2 w2 r2 => ⟨rfl, by rw [non_iff r2]; cases o <;> exact q _ G2 H2 e2 w2 rfl⟩
theorem et_test {b : Bool} (h : Ev te τ O b O1) : EvT (tTest te) τ O b O1 := fun σ G0 G H s w Q q => h σ G0 G H s w _ fun v G2 H2 e2 w2 r2 => ⟨b, r2, q G2 H2 e2 w2⟩
theorem et_B {b : Bool} (h : Ev te τ O b O1) : EvT (tB te) τ O b O1 := fun σ G0 G H s w Q q => h σ G0 G H s w _ fun v G2 H2 e2 w2 r2 => ⟨b, r2, q G2 H2 e2 w2⟩
theorem et_not {b : Bool} (h : EvT t τ O b O1) : EvT (tNot t) τ O (!b) O1 := fun σ G0 G H s w Q q => h σ G0 G H s w _ fun G2 H2 e2 w2 => q G2 H2 e2 w2
theorem et_and {a b : Bool} (h : EvT t τ O a O1) (h1 : a = true → EvT u τ O1 b O2) (h2 : a = false → b = false ∧ O2 = O1) : EvT (tAnd t u) τ O b O2 := fun σ G0 G H s w Q q => h σ G0 G H s w _ fun G2 H2 e2 w2 => by
  cases a with
  | true => exact (show u σ H2 Q from h1 rfl σ G0 G2 H2 (s.mono e2) w2 Q fun G3 H3 e3 w3 => q G3 H3 (e2.trans e3) w3)
  | false =>
    obtain ⟨rfl, rfl⟩ := h2 rfl
    exact q G2 H2 e2 w2
theorem et_or {a b : Bool} (h : EvT t τ O a O1) (h1 : a = false → EvT u τ O1 b O2) (h2 : a = true → b = true ∧ O2 = O1) : EvT (tOr t u) τ O b O2 := fun σ G0 G H s w Q q => h σ G0 G H s w _ fun G2 H2 e2 w2 => by
  cases a with
  | false => exact (show u σ H2 Q from h1 rfl σ G0 G2 H2 (s.mono e2) w2 Q fun G3 H3 e3 w3 => q G3 H3 (e2.trans e3) w3)
  | true =>
    obtain ⟨rfl, rfl⟩ := h2 rfl
    exact q G2 H2 e2 w2
theorem et_andP {a b : Bool} (h : EvT t τ O a O1) (h1 : EvT u τ O1 b O1) : EvT (tAnd t u) τ O (a && b) O1 := et_and h (fun e => by subst e; exact h1) (fun e => by subst e; exact ⟨rfl, rfl⟩)
theorem et_orP {a b : Bool} (h : EvT t τ O a O1) (h1 : EvT u τ O1 b O1) : EvT (tOr t u) τ O (a || b) O1 := et_or h (fun e => by subst e; exact h1) (fun e => by subst e; exact ⟨rfl, rfl⟩)
theorem ev_andV {a b : Bool} (h : Ev ta τ O a O1) (h1 : a = true → Ev tb τ O1 b O2) (h2 : a = false → b = false ∧ O2 = O1) : Ev (tAndV ta tb) τ O b O2 := fun σ G0 G H s w Q q => h σ G0 G H s w _ fun v G2 H2 e2 w2 r2 => ⟨a, r2, by
  cases a with
  | true => exact (show tb σ H2 Q from h1 rfl σ G0 G2 H2 (s.mono e2) w2 Q fun v3 G3 H3 e3 w3 r3 => q v3 G3 H3 (e2.trans e3) w3 r3)
  | false =>
    obtain ⟨rfl, rfl⟩ := h2 rfl
    exact q _ G2 H2 e2 w2 rfl⟩
theorem ev_orV {a b : Bool} (h : Ev ta τ O a O1) (h1 : a = false → Ev tb τ O1 b O2) (h2 : a = true → b = true ∧ O2 = O1) : Ev (tOrV ta tb) τ O b O2 := fun σ G0 G H s w Q q => h σ G0 G H s w _ fun v G2 H2 e2 w2 r2 => ⟨a, r2, by
  cases a with
  | false => exact (show tb σ H2 Q from h1 rfl σ G0 G2 H2 (s.mono e2) w2 Q fun v3 G3 H3 e3 w3 r3 => q v3 G3 H3 (e2.trans e3) w3 r3)
  | true =>
    obtain ⟨rfl, rfl⟩ := h2 rfl
    exact q _ G2 H2 e2 w2 rfl⟩
theorem ev_andVP {a b : Bool} (h : Ev ta τ O a O1) (h1 : Ev tb τ O1 b O1) : Ev (tAndV ta tb) τ O (a && b) O1 := ev_andV h (fun e => by subst e; exact h1) (fun e => by subst e; exact ⟨rfl, rfl⟩)
theorem ev_orVP {a b : Bool} (h : Ev ta τ O a O1) (h1 : Ev tb τ O1 b O1) : Ev (tOrV ta tb) τ O (a || b) O1 := ev_orV h (fun e => by subst e; exact h1) (fun e => by subst e; exact ⟨rfl, rfl⟩)
theorem ev_notV {a : Bool} (h : Ev ta τ O a O1) : Ev (tNotV ta) τ O (!a) O1 := fun σ G0 G H s w Q q => h σ G0 G H s w _ fun v G2 H2 e2 w2 r2 => ⟨a, r2, q _ G2 H2 e2 w2 rfl⟩
theorem ev_if {b : Bool} (h : EvT t τ O b O1) (h1 : b = true → EvD ta τ O1 d O2) (h2 : b = false → EvD tb τ O1 d O2) : EvD (tIf t ta tb) τ O d O2 := fun σ G0 G H s w Q q => h σ G0 G H s w _ fun G2 H2 e2 w2 => by
  cases b with
  | true => exact (show ta σ H2 Q from h1 rfl σ G0 G2 H2 (s.mono e2) w2 Q fun v3 G3 H3 e3 w3 r3 => q v3 G3 H3 (e2.trans e3) w3 r3)
  | false => exact (show tb σ H2 Q from h2 rfl σ G0 G2 H2 (s.mono e2) w2 Q fun v3 G3 H3 e3 w3 r3 => q v3 G3 H3 (e2.trans e3) w3 r3)
theorem ec_if {b : Bool} {c : Cell} (h : EvT t τ O b O1) (h1 : b = true → EvC ta τ O1 c O2) (h2 : b = false → EvC tb τ O1 c O2) : EvC (tIf t ta tb) τ O c O2 := fun σ G0 G H s w Q q => h σ G0 G H s w _ fun G2 H2 e2 w2 => by
  cases b with
  | true => exact (show ta σ H2 Q from h1 rfl σ G0 G2 H2 (s.mono e2) w2 Q fun v3 G3 H3 e3 w3 => q v3 G3 H3 (e2.trans e3) w3)
  | false => exact (show tb σ H2 Q from h2 rfl σ G0 G2 H2 (s.mono e2) w2 Q fun v3 G3 H3 e3 w3 => q v3 G3 H3 (e2.trans e3) w3)
theorem ea_nil : EvA tNil τ O [] O := fun σ G0 G H s w Q q => q [] G H (Ex.refl _) w trivial
theorem ea_cons (h : EvD te τ O d O1) (hr : EvA tr τ O1 ds O2) : EvA (tCons te tr) τ O (d :: ds) O2 := fun σ G0 G H s w Q q =>
  h σ G0 G H s w _ fun v G2 H2 e2 w2 r2 => hr σ G0 G2 H2 (s.mono e2) w2 _ fun vs G3 H3 e3 w3 r3 => q _ G3 H3 (e2.trans e3) w3 ⟨d.mono e3 r2, r3⟩
/-! tuples -/
theorem sz_small {n : Nat} (h : n ≤ 1000000) : n ≤ sizeLine := Nat.le_trans h (by decide)
theorem ev_tup1 {a : α} (h : EvA tr τ O [dy a] O1) : Ev (tTup tr) τ O (T1.mk a) O1 := fun σ G0 G H s w Q q =>
  h σ G0 G H s w _ fun vs G2 H2 e2 w2 r2 => match vs, r2 with
    | [v1], ⟨r1, _⟩ => ⟨by show 1 ≤ sizeLine; decide, fun p hp => by
      obtain ⟨e3, w3⟩ := w2.grow (o := .tup [v1]) hp
      exact q _ _ _ (e2.trans e3) w3 ⟨p, v1, rfl, upd_same, Rp.mono e3 r1⟩⟩
theorem ev_tup2 {a : α} {b : β} (h : EvA tr τ O [dy a, dy b] O1) : Ev (tTup tr) τ O (T2.mk a b) O1 := fun σ G0 G H s w Q q =>
  h σ G0 G H s w _ fun vs G2 H2 e2 w2 r2 => match vs, r2 with
    | [v1, v2], ⟨r1, r3, _⟩ => ⟨by show 2 ≤ sizeLine; decide, fun p hp => by
      obtain ⟨e3, w3⟩ := w2.grow (o := .tup [v1, v2]) hp
      exact q _ _ _ (e2.trans e3) w3 ⟨p, v1, v2, rfl, upd_same, Rp.mono e3 r1, Rp.mono e3 r3⟩⟩
theorem ev_tup3 {a : α} {b : β} {c : γ} (h : EvA tr τ O [dy a, dy b, dy c] O1) : Ev (tTup tr) τ O (T3.mk a b c) O1 := fun σ G0 G H s w Q q =>
  h σ G0 G H s w _ fun vs G2 H2 e2 w2 r2 => match vs, r2 with
    | [v1, v2, v3], ⟨r1, r3, r4, _⟩ => ⟨by show 3 ≤ sizeLine; decide, fun p hp => by
      obtain ⟨e3, w3⟩ := w2.grow (o := .tup [v1, v2, v3]) hp
      exact q _ _ _ (e2.trans e3) w3 ⟨p, v1, v2, v3, rfl, upd_same, Rp.mono e3 r1, Rp.mono e3 r3, Rp.mono e3 r4⟩⟩
theorem ev_tup4 {a : α} {b : β} {c : γ} {x : δ} (h : EvA tr τ O [dy a, dy b, dy c, dy x] O1) : Ev (tTup tr) τ O (T4.mk a b c x) O1 := fun σ G0 G H s w Q q =>
  h σ G0 G H s w _ fun vs G2 H2 e2 w2 r2 => match vs, r2 with
    | [v1, v2, v3, v4], ⟨r1, r3, r4, r5, _⟩ => ⟨by show 4 ≤ sizeLine; decide, fun p hp => by
      obtain ⟨e3, w3⟩ := w2.grow (o := .tup [v1, v2, v3, v4]) hp
      exact q _ _ _ (e2.trans e3) w3 ⟨p, v1, v2, v3, v4, rfl, upd_same, Rp.mono e3 r1, Rp.mono e3 r3, Rp.mono e3 r4, Rp.mono e3 r5⟩⟩
/-! lists written -/
def RpDs {α : Type} [Rp α] : List Dyn → List α → Prop
  | [], [] => True
  | d :: ds, x :: xs => d = dy x ∧ RpDs ds xs
  | _, _ => False
theorem RpDs.vs {G : Hp} : ∀ {ds : List Dyn} {xs : List α} {vs : List V}, RpDs ds xs → Vs G vs ds → RpL G vs xs
  | [], [], [], _, _ => trivial
  | _ :: _, _ :: _, _ :: _, ⟨e, t⟩, ⟨h, k⟩ => ⟨by subst e; exact h, RpDs.vs t k⟩
  | [], _ :: _, _, h, _ => h.elim
  | _ :: _, [], _, h, _ => h.elim
  | [], [], _ :: _, _, h => h.elim
  | _ :: _, _ :: _, [], _, h => h.elim
theorem en_lst {xs : List α} (h : EvA tr τ O ds O1) (hx : RpDs ds xs) (hl : xs.length ≤ 1000000) : EvN (tLst tr) τ O xs O1 := fun σ G0 G H s w Q q =>
  h σ G0 G H s w _ fun vs G2 H2 e2 w2 r2 => by
    have r := hx.vs r2
    exact ⟨sz_small (by rw [r.length]; exact hl), fun p hp => q p G2 _ e2 (w2.alloc (c := cL1 xs) hp ⟨vs, rfl, r, hl⟩)⟩
end
end DL
end
section
namespace DL
open PySem PySem.Spec PyProof.Rows L2
open Rp (rp)

/-! ### numbers -/
section
variable {α β γ δ : Type} [Rp α] [Rp β] [Rp γ] [Rp δ] {K : PySem.W.Frag} {τ : Env} {O O1 O2 O3 O' : Own} {ta tb tc te : TE} {t u : TT} {tr : TA} {d : Dyn} {ds : List Dyn} {a b r : Int}
def CMulX (i j : Int) : Prop := CMul i j ∨ CMulW i j
theorem op_mulX {X : Cx} : OpR X (binaryOp .Mult) (rI CMulX fun i j => .int (i * j)) := opI fun _ _ _ _ _ _ _ hc q => mul_int q (hc.elim CMul.ok CMulW.ok)
theorem ev_mul (ha : Ev ta τ O a O1) (hb : Ev tb τ O1 b O2) (h : mulO a b = some r) : Ev (tOp (rI CMulX fun i j => .int (i * j)) ta tb) τ O r O2 := by
  obtain ⟨rfl, h1⟩ := mulO_ok h
  refine ev_I (g := fun i j => i * j) ha hb ?_
  rcases h1 with h1 | h1 | ⟨h1, h2⟩
  · exact .inl (.inl h1)
  · exact .inl (.inr h1)
  · exact .inr (wide_mul h1 h2 (by decide) (by decide) (by decide))
theorem ev_mod (ha : Ev ta τ O a O1) (hb : Ev tb τ O1 b O2) (h : modO a b = some r) : Ev (tOp (rI (fun _ j => 0 < j) fun i j => .int (i % j)) ta tb) τ O r O2 := by
  obtain ⟨rfl, h1⟩ := modO_ok h
  exact ev_I (g := fun i j => i % j) ha hb h1
theorem ev_div (ha : Ev ta τ O a O1) (hb : Ev tb τ O1 b O2) (h : divO a b = some r) : Ev (tOp (rI CDivW fun i j => .int (i / j)) ta tb) τ O r O2 := by
  obtain ⟨rfl, h1, h2⟩ := divO_ok h
  exact ev_I (g := fun i j => i / j) ha hb (wide_div h1 h2 (by decide) (by decide))
theorem ev_pow (ha : Ev ta τ O a O1) (hb : Ev tb τ O1 b O2) (h : powO a b = some r) : Ev (tOp (rI CPow fun i j => .int (i ^ j.toNat)) ta tb) τ O r O2 := by
  obtain ⟨rfl, h1⟩ := powO_ok h
  exact ev_I (g := fun i j => i ^ j.toNat) ha hb h1
theorem ev_add (ha : Ev ta τ O a O1) (hb : Ev tb τ O1 b O2) : Ev (tOp (rI0 fun i j => .int (i + j)) ta tb) τ O (a + b) O2 := ev_I0 (g := fun i j => i + j) ha hb
theorem ev_sub (ha : Ev ta τ O a O1) (hb : Ev tb τ O1 b O2) : Ev (tOp (rI0 fun i j => .int (i - j)) ta tb) τ O (a - b) O2 := ev_I0 (g := fun i j => i - j) ha hb
theorem ev_lt (ha : Ev ta τ O a O1) (hb : Ev tb τ O1 b O2) : Ev (tOp (rI0 fun i j => .bl (decide (i < j))) ta tb) τ O (decide (a < b)) O2 := ev_B0 (g := fun i j => decide (i < j)) ha hb
theorem ev_le (ha : Ev ta τ O a O1) (hb : Ev tb τ O1 b O2) : Ev (tOp (rI0 fun i j => .bl (decide (i ≤ j))) ta tb) τ O (decide (a ≤ b)) O2 := ev_B0 (g := fun i j => decide (i ≤ j)) ha hb
theorem ev_gt (ha : Ev ta τ O a O1) (hb : Ev tb τ O1 b O2) : Ev (tOp (rI0 fun i j => .bl (decide (j < i))) ta tb) τ O (decide (b < a)) O2 := ev_B0 (g := fun i j => decide (j < i)) ha hb
theorem ev_ge (ha : Ev ta τ O a O1) (hb : Ev tb τ O1 b O2) : Ev (tOp (rI0 fun i j => .bl (decide (j ≤ i))) ta tb) τ O (decide (b ≤ a)) O2 := ev_B0 (g := fun i j => decide (j ≤ i)) ha hb
theorem ev_neg (ha : Ev ta τ O a O1) : Ev (tUn (rU fun i => .int (-i)) ta) τ O (-a) O1 := ev_U (g := fun i => -i) ha
theorem ev_cb1 {g : Int → Int} (ha : Ev ta τ O a O1) : Ev (tCB (fun xs H Q => ∃ i, xs = [.int i] ∧ Q (.int (g i)) H) (tCons ta tNil)) τ O (g a) O1 := fun σ G0 G H s w Q q =>
  ha σ G0 G H s w _ fun v G2 H2 e2 w2 r2 => ⟨a, by cases r2; rfl, q _ G2 H2 e2 w2 rfl⟩
theorem ev_cb2 {g : Int → Int → Int} (ha : Ev ta τ O a O1) (hb : Ev tb τ O1 b O2) : Ev (tCB (fun xs H Q => ∃ i j, xs = [.int i, .int j] ∧ Q (.int (g i j)) H) (tCons ta (tCons tb tNil))) τ O (g a b) O2 := fun σ G0 G H s w Q q =>
  ha σ G0 G H s w _ fun v G2 H2 e2 w2 r2 => hb σ G0 G2 H2 (s.mono e2) w2 _ fun v3 G3 H3 e3 w3 r3 => ⟨a, b, by cases r2; cases r3; rfl, q _ G3 H3 (e2.trans e3) w3 rfl⟩
theorem ev_abs (ha : Ev ta τ O a O1) : Ev (tCB (fun xs H Q => ∃ i, xs = [.int i] ∧ Q (.int (if i < 0 then -i else i)) H) (tCons ta tNil)) τ O (absI a) O1 := ev_cb1 (g := absI) ha
theorem ev_min (ha : Ev ta τ O a O1) (hb : Ev tb τ O1 b O2) : Ev (tCB (fun xs H Q => ∃ i j, xs = [.int i, .int j] ∧ Q (.int (if j < i then j else i)) H) (tCons ta (tCons tb tNil))) τ O (minI a b) O2 := ev_cb2 (g := minI) ha hb
theorem ev_max (ha : Ev ta τ O a O1) (hb : Ev tb τ O1 b O2) : Ev (tCB (fun xs H Q => ∃ i j, xs = [.int i, .int j] ∧ Q (.int (if j > i then j else i)) H) (tCons ta (tCons tb tNil))) τ O (maxI a b) O2 := ev_cb2 (g := maxI) ha hb
abbrev rInt1 : List V → Hp → VK → Prop := fun xs H Q => (∃ i, xs = [.int i] ∧ Q (.int i) H) ∨ ∃ k, xs = [.bl k] ∧ Q (.int (if k then 1 else 0)) H
theorem ev_intB {k : Bool} (ha : Ev ta τ O k O1) : Ev (tCB rInt1 (tCons ta tNil)) τ O (b2i k) O1 := fun σ G0 G H s w Q q =>
  ha σ G0 G H s w _ fun v G2 H2 e2 w2 r2 => .inr ⟨k, by cases r2; rfl, q _ G2 H2 e2 w2 rfl⟩
theorem ev_intI (ha : Ev ta τ O a O1) : Ev (tCB rInt1 (tCons ta tNil)) τ O a O1 := fun σ G0 G H s w Q q =>
  ha σ G0 G H s w _ fun v G2 H2 e2 w2 r2 => .inl ⟨a, by cases r2; rfl, q _ G2 H2 e2 w2 rfl⟩
theorem bitsI_eq (a : Int) : bitsI a = (Builtin.Int.intBits a : Nat) := by
  unfold bitsI Builtin.Int.intBits
  by_cases h : a = 0 <;> simp [h]
theorem ev_bits (ha : Ev ta τ O a O1) : Ev (tBits ta) τ O (bitsI a) O1 := fun σ G0 G H s w Q q =>
  ha σ G0 G H s w _ fun v G2 H2 e2 w2 r2 => ⟨a, r2, q _ G2 H2 e2 w2 (by rw [bitsI_eq]; rfl)⟩

/-! ### lists that are read -/
def KT : Own → Prop := fun _ => True
def KO (l : Addr) (c : Cell) : Own → Prop := fun O => ∃ k : Nat, O[k]? = some (l, c)
def Stood {α : Type} [Rp α] (p : Addr) (xs : List α) (G2 : Hp) (Kp : Own → Prop) : Prop := ∀ (G0 G3 H3 : Hp) (O3 : Own), Ex G2 G3 → W G0 G3 O3 H3 → Kp O3 → ∃ vs, H3 p = some (.lst vs) ∧ RpL G3 vs xs
def EvLs {α : Type} [Rp α] (te : TE) (τ : Env) (O : Own) (xs : List α) (O' : Own) (Kp : Own → Prop) : Prop := ∀ (σ : L2.St) (G0 G H : Hp), Sl G σ τ → W G0 G O H → ∀ Q : VK, (∀ (p : Addr) (G2 H2 : Hp), Ex G G2 → W G0 G2 O' H2 → Stood p xs G2 Kp → xs.length ≤ 1000000 → Q (.ref p) H2) → te σ H Q
theorem Stood.mono {p : Addr} {xs : List α} {G G2 : Hp} {Kp : Own → Prop} (h : Stood p xs G Kp) (e : Ex G G2) : Stood p xs G2 Kp := fun G0 G3 H3 O3 e3 w k => h G0 G3 H3 O3 (e.trans e3) w k
theorem ls_fr {xs : List α} (h : Ev te τ O xs O') : EvLs te τ O xs O' KT := fun σ G0 G H s w Q q => h σ G0 G H s w _ fun v G2 H2 e2 w2 ⟨a, vs, h1, h2, h3, h4⟩ => by
  subst h1
  exact q a G2 H2 e2 w2 (fun G0 G3 H3 O3 e3 w3 _ => ⟨vs, w3.ex _ _ (e3 _ _ h2), h3.mono e3⟩) h4
theorem ls_own {xs : List α} {i k : Nat} {l : Addr} (hi : τ[i]? = some (some (dyA l))) (hk : O[k]? = some (l, cL xs)) : EvLs (tVar i) τ O xs O (KO l (cL xs)) := fun σ G0 G H s w Q q => by
  obtain ⟨v, hv, hd⟩ := s.get hi
  have hd : v = .ref l := hd
  subst hd
  obtain ⟨_, o, _, vs, _, _, hl⟩ := w.get hk
  exact ⟨_, hv, q l G H (Ex.refl _) w (fun G0 G3 H3 O3 e3 w3 ⟨k3, hk3⟩ => by
    obtain ⟨_, o, ho, vs, rfl, hr, _⟩ := w3.get hk3
    exact ⟨vs, ho, hr⟩) hl⟩
theorem ls_new {xs : List α} (h : EvN te τ O xs O') : EvLs te τ O xs O' KT := ls_fr h.fr
theorem Stood.now {p : Addr} {xs : List α} {G0 G H : Hp} {Kp : Own → Prop} (h : Stood p xs G Kp) (w : W G0 G O H) (k : Kp O) : ∃ vs, H p = some (.lst vs) ∧ RpL G vs xs := h G0 G H O (Ex.refl _) w k
abbrev rLenS (K : PySem.W.Frag) : List V → Hp → VK → Prop := fun xs H Q => ∃ p ys, xs = [.ref p] ∧ (SqL K H p ys ∨ SqT K H p ys) ∧ Q (.int ys.length) H
theorem ev_len {xs : List α} {Kp : Own → Prop} (ha : EvLs ta τ O xs O1 Kp) (hk : Kp O1) : Ev (tCB (rLenS K) (tCons ta tNil)) τ O (lenI xs) O1 := fun σ G0 G H s w Q q =>
  ha σ G0 G H s w _ fun p G2 H2 e2 w2 st hl => by
    obtain ⟨vs, h1, h2⟩ := st.now w2 hk
    exact ⟨p, vs, rfl, .inl (.inl (.inl h1)), q _ G2 H2 e2 w2 (by rw [h2.length]; rfl)⟩
theorem ev_ix {xs : List α} {x : α} {Kp : Own → Prop} (ha : EvLs ta τ O xs O1 Kp) (hb : Ev tb τ O1 a O2) (hk : Kp O2) (h : ixO xs a = some x) : Ev (tOp (rIxL K) ta tb) τ O x O2 := fun σ G0 G H s w Q q =>
  ha σ G0 G H s w _ fun p G2 H2 e2 w2 st hl => hb σ G0 G2 H2 (s.mono e2) w2 _ fun v G3 H3 e3 w3 r3 => by
    obtain ⟨vs, h1, h2⟩ := (st.mono e3).now w3 hk
    obtain ⟨j, hj, hx⟩ := ixO_ok h
    obtain ⟨v', hv', hr⟩ := h2.get hx
    refine ⟨p, vs, a, v', rfl, r3, .inl (.inl h1), ?_, q _ G3 H3 (e2.trans e3) w3 hr⟩
    unfold atI
    rw [h2.length, show ixN xs.length a = some j from hj]
    exact hv'
abbrev EvO (to : TO) (τ : Env) (O : Own) (o : Option Int) (O' : Own) : Prop := ∀ (σ : L2.St) (G0 G H : Hp), Sl G σ τ → W G0 G O H → ∀ Q : Option Int → Hp → Prop, (∀ (G2 H2 : Hp), Ex G G2 → W G0 G2 O' H2 → Q o H2) → to σ H Q
theorem eo_none : EvO tNoPart τ O none O := fun σ G0 G H s w Q q => q G H (Ex.refl _) w
theorem eo_some (h : Ev te τ O a O') : EvO (tPart te) τ O (some a) O' := fun σ G0 G H s w Q q => h σ G0 G H s w _ fun v G2 H2 e2 w2 r2 => ⟨a, r2, q G2 H2 e2 w2⟩
theorem RpL.cut {G : Hp} {vs : List V} {xs : List α} (h : RpL G vs xs) (lo hi : Option Int) : RpL G (cutV vs lo hi) (DL.cut xs lo hi) := by
  have e : ∀ (n d : Nat) (o : Option Int), HT.sIx n d o = DL.sIx n d o := fun n d o => by cases o <;> rfl
  unfold cutV DL.cut
  rw [e, e, h.length]
  exact (h.drop _).take _
theorem en_cut {xs : List α} {lo hi : Option Int} {tl th : TO} {Kp : Own → Prop} (ha : EvLs ta τ O xs O1 Kp) (h1 : EvO tl τ O1 lo O2) (h2 : EvO th τ O2 hi O3) (hk : Kp O3) : EvN (tSl (rSlL K) ta tl th) τ O (cut xs lo hi) O3 := fun σ G0 G H s w Q q =>
  ha σ G0 G H s w _ fun p G2 H2 e2 w2 st hl => h1 σ G0 G2 H2 (s.mono e2) w2 _ fun G3 H3 e3 w3 => h2 σ G0 G3 H3 ((s.mono e2).mono e3) w3 _ fun G4 H4 e4 w4 => by
    obtain ⟨vs, k1, k2⟩ := ((st.mono e3).mono e4).now w4 hk
    exact ⟨p, vs, rfl, .inl (.inl k1), fun l hl' => q l G4 _ ((e2.trans e3).trans e4) (w4.alloc (c := cL1 (cut xs lo hi)) hl' ⟨_, rfl, k2.cut lo hi, Nat.le_trans (cut_length _ _ _) hl⟩)⟩
abbrev rListS (K : PySem.W.Frag) : List V → Hp → VK → Prop := fun xs H Q => ∃ p ys, xs = [.ref p] ∧ (SqL K H p ys ∨ SqT K H p ys) ∧ ∀ l, H l = none → Q (.ref l) (upd H l (.lst ys))
theorem en_list {xs : List α} {Kp : Own → Prop} (ha : EvLs ta τ O xs O1 Kp) (hk : Kp O1) : EvN (tCB (rListS K) (tCons ta tNil)) τ O xs O1 := fun σ G0 G H s w Q q =>
  ha σ G0 G H s w _ fun p G2 H2 e2 w2 st hl => by
    obtain ⟨vs, k1, k2⟩ := st.now w2 hk
    exact ⟨p, vs, rfl, .inl (.inl (.inl k1)), fun l hl' => q l G2 _ e2 (w2.alloc (c := cL1 xs) hl' ⟨_, rfl, k2, hl⟩)⟩
theorem en_cat {xs ys zs : List α} {Kp Kq : Own → Prop} (ha : EvLs ta τ O xs O1 Kp) (hb : EvLs tb τ O1 ys O2 Kq) (hk : Kp O2) (hq : Kq O2) (h : catO xs ys = some zs) : EvN (tOp rCat ta tb) τ O zs O2 := fun σ G0 G H s w Q q => by
  obtain ⟨rfl, hz⟩ := catO_ok h
  exact ha σ G0 G H s w _ fun p G2 H2 e2 w2 st hl => hb σ G0 G2 H2 (s.mono e2) w2 _ fun p3 G3 H3 e3 w3 st3 hl3 => by
    obtain ⟨vs, k1, k2⟩ := (st.mono e3).now w3 hk
    obtain ⟨us, k3, k4⟩ := st3.now w3 hq
    refine ⟨p, p3, vs, us, rfl, rfl, k1, k3, sz_small (by rw [k2.length, k4.length]; exact hz), fun l hl' => q l G3 _ (e2.trans e3) (w3.alloc (c := cL1 (xs ++ ys)) hl' ⟨_, rfl, k2.append k4, ?_⟩)⟩
    rw [List.length_append]
    exact hz
theorem ev_sum {xs : List Int} {Kp : Own → Prop} (ha : EvLs ta τ O xs O1 Kp) (hk : Kp O1) : Ev (tCB (rSum K) (tCons ta tNil)) τ O xs.sum O1 := fun σ G0 G H s w Q q =>
  ha σ G0 G H s w _ fun p G2 H2 e2 w2 st hl => by
    obtain ⟨vs, k1, k2⟩ := st.now w2 hk
    exact ⟨p, xs, rfl, .inl (.inl (by rw [k1, k2.ints])), q _ G2 H2 e2 w2 rfl⟩
theorem ev_all {xs : List Bool} {Kp : Own → Prop} (ha : EvLs ta τ O xs O1 Kp) (hk : Kp O1) : Ev (tCB (rAll K) (tCons ta tNil)) τ O (xs.all id) O1 := fun σ G0 G H s w Q q =>
  ha σ G0 G H s w _ fun p G2 H2 e2 w2 st hl => by
    obtain ⟨vs, k1, k2⟩ := st.now w2 hk
    exact ⟨p, xs, rfl, .inl (.inl (by rw [k1, k2.bools])), q _ G2 H2 e2 w2 rfl⟩

/-! ### items of tuples -/
theorem ev_t {x : α} {n : Int} {tup : Type} [Rp tup] {y : tup} (ha : Ev ta τ O y O1) (h : ∀ (G : Hp) (v : V), rp G v y → ∃ t vs u, v = .ref t ∧ G t = some (.tup vs) ∧ atI vs n = some u ∧ rp G u x) : Ev (tOp (rIxT K) ta (tC (.int n))) τ O x O1 := fun σ G0 G H s w Q q =>
  ha σ G0 G H s w _ fun v G2 H2 e2 w2 r2 => by
    obtain ⟨t, vs, u, h1, h2, h3, h4⟩ := h G2 v r2
    exact ⟨t, vs, n, u, h1, rfl, .inl (.inl (w2.ex _ _ h2)), h3, q _ G2 H2 e2 w2 h4⟩
theorem ev_t20 {x : T2 α β} (ha : Ev ta τ O x O1) : Ev (tOp (rIxT K) ta (tC (.int 0))) τ O x.a O1 := ev_t ha fun G v ⟨t, v1, v2, h, g, h1, h2⟩ => ⟨t, _, v1, h, g, rfl, h1⟩
theorem ev_t21 {x : T2 α β} (ha : Ev ta τ O x O1) : Ev (tOp (rIxT K) ta (tC (.int 1))) τ O x.b O1 := ev_t ha fun G v ⟨t, v1, v2, h, g, h1, h2⟩ => ⟨t, _, v2, h, g, rfl, h2⟩
theorem ev_t30 {x : T3 α β γ} (ha : Ev ta τ O x O1) : Ev (tOp (rIxT K) ta (tC (.int 0))) τ O x.a O1 := ev_t ha fun G v ⟨t, v1, v2, v3, h, g, h1, h2, h3⟩ => ⟨t, _, v1, h, g, rfl, h1⟩
theorem ev_t31 {x : T3 α β γ} (ha : Ev ta τ O x O1) : Ev (tOp (rIxT K) ta (tC (.int 1))) τ O x.b O1 := ev_t ha fun G v ⟨t, v1, v2, v3, h, g, h1, h2, h3⟩ => ⟨t, _, v2, h, g, rfl, h2⟩
theorem ev_t32 {x : T3 α β γ} (ha : Ev ta τ O x O1) : Ev (tOp (rIxT K) ta (tC (.int 2))) τ O x.c O1 := ev_t ha fun G v ⟨t, v1, v2, v3, h, g, h1, h2, h3⟩ => ⟨t, _, v3, h, g, rfl, h3⟩
theorem ev_t40 {x : T4 α β γ δ} (ha : Ev ta τ O x O1) : Ev (tOp (rIxT K) ta (tC (.int 0))) τ O x.a O1 := ev_t ha fun G v ⟨t, v1, v2, v3, v4, h, g, h1, h2, h3, h4⟩ => ⟨t, _, v1, h, g, rfl, h1⟩
theorem ev_t41 {x : T4 α β γ δ} (ha : Ev ta τ O x O1) : Ev (tOp (rIxT K) ta (tC (.int 1))) τ O x.b O1 := ev_t ha fun G v ⟨t, v1, v2, v3, v4, h, g, h1, h2, h3, h4⟩ => ⟨t, _, v2, h, g, rfl, h2⟩
theorem ev_t42 {x : T4 α β γ δ} (ha : Ev ta τ O x O1) : Ev (tOp (rIxT K) ta (tC (.int 2))) τ O x.c O1 := ev_t ha fun G v ⟨t, v1, v2, v3, v4, h, g, h1, h2, h3, h4⟩ => ⟨t, _, v3, h, g, rfl, h3⟩
theorem ev_t43 {x : T4 α β γ δ} (ha : Ev ta τ O x O1) : Ev (tOp (rIxT K) ta (tC (.int 3))) τ O x.d O1 := ev_t ha fun G v ⟨t, v1, v2, v3, v4, h, g, h1, h2, h3, h4⟩ => ⟨t, _, v4, h, g, rfl, h4⟩
end

/-! ### targets, walks -/
def Tgt {α : Type} [Rp α] (g : TG) (x : α) (τ τ' : Env) (ws : List Nat) : Prop := ∀ (σ : L2.St) (G H : Hp) (v : V) (N : L2.St → Hp → Prop), Ex G H → Sl G σ τ → rp G v x → (∀ σ', Sl G σ' τ' → (∀ vs, (∀ i ∈ ws, i ∈ vs) → L2.wipe σ' vs = L2.wipe σ vs) → N σ' H) → g v σ H N
theorem wipe_set {σ : L2.St} {i : Nat} {v : V} : ∀ {vs : List Nat}, i ∈ vs → L2.wipe (σ.set i (some v)) vs = L2.wipe σ vs
  | [], h => by simp at h
  | j :: vs, h => by
    show (L2.wipe (σ.set i (some v)) vs).set j none = (L2.wipe σ vs).set j none
    by_cases e : i ∈ vs
    · rw [wipe_set e]
    · have e2 : i = j := by
        rcases List.mem_cons.mp h with z | z
        · exact z
        · exact absurd z e
      subst e2
      have gen : ∀ ws : List Nat, i ∉ ws → L2.wipe (σ.set i (some v)) ws = (L2.wipe σ ws).set i (some v) := by
        intro ws
        induction ws with
        | nil => intro _; rfl
        | cons k ws ih =>
          intro hn
          have n1 : i ≠ k := fun z => hn (by rw [z]; exact List.mem_cons_self ..)
          have n2 : i ∉ ws := fun z => hn (List.mem_cons_of_mem _ z)
          show (L2.wipe (σ.set i (some v)) ws).set k none = ((L2.wipe σ ws).set k none).set i (some v)
          rw [ih n2, List.set_comm _ _ n1]
      rw [gen vs e, List.set_set]
theorem wipe_wipe (σ : L2.St) : ∀ vs : List Nat, L2.wipe (L2.wipe σ vs) vs = L2.wipe σ vs := fun vs => by
  have h : ∀ i, (L2.wipe (L2.wipe σ vs) vs)[i]? = (L2.wipe σ vs)[i]? := fun i => by
    by_cases e : i ∈ vs
    · have z : ∀ (ws : List Nat) (ρ : L2.St), i ∈ ws → (L2.wipe ρ ws)[i]? = if i < ρ.length then some none else none := by
        intro ws
        induction ws with
        | nil => intro _ h; simp at h
        | cons k ws ih =>
          intro ρ hm
          show ((L2.wipe ρ ws).set k none)[i]? = _
          by_cases e2 : k = i
          · subst e2
            rw [List.getElem?_set, L2.wipe_length]
            simp
          · rw [List.getElem?_set_ne e2]
            refine ih ρ ?_
            rcases List.mem_cons.mp hm with z | z
            · exact absurd z.symm e2
            · exact z
      rw [z vs _ e, z vs _ e, L2.wipe_length]
    · rw [L2.wipe_out e]
  exact List.ext_getElem? h
section
variable {α β γ δ : Type} [Rp α] [Rp β] [Rp γ] [Rp δ] {K : PySem.W.Frag} {τ τ1 τ2 τ3 τ4 : Env} {O O1 O2 O3 O' : Own} {ta tb tc te tl : TE} {t u : TT} {tr : TA} {d : Dyn} {ds : List Dyn} {a b r : Int}
theorem tg_name {i : Nat} {x : α} : Tgt (gName i) x τ (τ.set i (some (dy x))) [i] := fun σ G H v N e s r q => q _ (s.set (d := dy x) r i) fun vs h => wipe_set (h i (List.mem_singleton.mpr rfl))
theorem tg_2 {g1 g2 : TG} {x : T2 α β} {w1 w2 : List Nat} (h1 : Tgt g1 x.a τ τ1 w1) (h2 : Tgt g2 x.b τ1 τ2 w2) : Tgt (gTup K 2 (gCons g1 (gCons g2 gNil))) x τ τ2 (w1 ++ w2) := fun σ G H v N e s ⟨t, v1, v2, h, g, r1, r2⟩ q =>
  ⟨t, [v1, v2], h, .inl (.inl (e _ _ g)), rfl, v1, [v2], rfl, h1 σ G H v1 _ e s r1 fun σ1 s1 k1 => ⟨v2, [], rfl, h2 σ1 G H v2 _ e s1 r2 fun σ2 s2 k2 => ⟨rfl, q σ2 s2 fun vs hv => (k2 vs fun i hi => hv i (List.mem_append_right _ hi)).trans (k1 vs fun i hi => hv i (List.mem_append_left _ hi))⟩⟩⟩
theorem tg_3 {g1 g2 g3 : TG} {x : T3 α β γ} {w1 w2 w3 : List Nat} (h1 : Tgt g1 x.a τ τ1 w1) (h2 : Tgt g2 x.b τ1 τ2 w2) (h3 : Tgt g3 x.c τ2 τ3 w3) : Tgt (gTup K 3 (gCons g1 (gCons g2 (gCons g3 gNil)))) x τ τ3 (w1 ++ (w2 ++ w3)) := fun σ G H v N e s ⟨t, v1, v2, v3, h, g, r1, r2, r3⟩ q =>
  ⟨t, [v1, v2, v3], h, .inl (.inl (e _ _ g)), rfl, v1, [v2, v3], rfl, h1 σ G H v1 _ e s r1 fun σ1 s1 k1 => ⟨v2, [v3], rfl, h2 σ1 G H v2 _ e s1 r2 fun σ2 s2 k2 => ⟨v3, [], rfl, h3 σ2 G H v3 _ e s2 r3 fun σ3 s3 k3 => ⟨rfl, q σ3 s3 fun vs hv =>
    ((k3 vs fun i hi => hv i (List.mem_append_right _ (List.mem_append_right _ hi))).trans (k2 vs fun i hi => hv i (List.mem_append_right _ (List.mem_append_left _ hi)))).trans (k1 vs fun i hi => hv i (List.mem_append_left _ hi))⟩⟩⟩⟩
theorem tg_4 {g1 g2 g3 g4 : TG} {x : T4 α β γ δ} {w1 w2 w3 w4 : List Nat} (h1 : Tgt g1 x.a τ τ1 w1) (h2 : Tgt g2 x.b τ1 τ2 w2) (h3 : Tgt g3 x.c τ2 τ3 w3) (h4 : Tgt g4 x.d τ3 τ4 w4) : Tgt (gTup K 4 (gCons g1 (gCons g2 (gCons g3 (gCons g4 gNil))))) x τ τ4 (w1 ++ (w2 ++ (w3 ++ w4))) := fun σ G H v N e s ⟨t, v1, v2, v3, v4, h, g, r1, r2, r3, r4⟩ q =>
  ⟨t, [v1, v2, v3, v4], h, .inl (.inl (e _ _ g)), rfl, v1, [v2, v3, v4], rfl, h1 σ G H v1 _ e s r1 fun σ1 s1 k1 => ⟨v2, [v3, v4], rfl, h2 σ1 G H v2 _ e s1 r2 fun σ2 s2 k2 => ⟨v3, [v4], rfl, h3 σ2 G H v3 _ e s2 r3 fun σ3 s3 k3 => ⟨v4, [], rfl, h4 σ3 G H v4 _ e s3 r4 fun σ4 s4 k4 => ⟨rfl, q σ4 s4 fun vs hv =>
    (((k4 vs fun i hi => hv i (List.mem_append_right _ (List.mem_append_right _ (List.mem_append_right _ hi)))).trans (k3 vs fun i hi => hv i (List.mem_append_right _ (List.mem_append_right _ (List.mem_append_left _ hi))))).trans (k2 vs fun i hi => hv i (List.mem_append_right _ (List.mem_append_left _ hi)))).trans (k1 vs fun i hi => hv i (List.mem_append_left _ hi))⟩⟩⟩⟩⟩

def ItOk {α : Type} [Rp α] (G2 : Hp) (J : It) (xs : List α) (Kp : Own → Prop) : Prop := ∀ (G0 G H : Hp) (O : Own) (i : Nat), Ex G2 G → W G0 G O H → Kp O → (∀ x, xs[i]? = some x → J.go i H ∧ ∀ v H', J.yld i H v H' → ∃ G', Ex G G' ∧ W G0 G' O H' ∧ rp G' v x) ∧ (xs.length ≤ i → J.stop i H)
def Wk {α : Type} [Rp α] (wi : TI) (τ : Env) (O : Own) (xs : List α) (O' : Own) (Kp : Own → Prop) : Prop := ∀ (σ : L2.St) (G0 G H : Hp), Sl G σ τ → W G0 G O H → ∀ R : It → Hp → Prop, (∀ J G2 H2, Ex G G2 → W G0 G2 O' H2 → ItOk G2 J xs Kp → xs.length ≤ 1000000 → R J H2) → wi σ H R
theorem wk_list {xs : List α} {Kp : Own → Prop} (h : EvLs tl τ O xs O' Kp) (hk : Kp O') : Wk (iList K tl) τ O xs O' Kp := fun σ G0 G H s w R q =>
  h σ G0 G H s w _ fun p G2 H2 e2 w2 st hl => by
    obtain ⟨vs, h1, h2⟩ := st.now w2 hk
    refine ⟨p, rfl, ⟨vs, .inl (.inl h1)⟩, q _ G2 H2 e2 w2 (fun G0' G3 H3 O3 i e3 w3 k3 => ?_) hl⟩
    obtain ⟨us, k1, k2⟩ := st G0' G3 H3 O3 e3 w3 k3
    refine ⟨fun x hx => ?_, fun hi => ⟨us, .inl (.inl k1), by rw [k2.length]; exact hi⟩⟩
    obtain ⟨v, hv, hr⟩ := k2.get hx
    refine ⟨⟨us, v, .inl (.inl k1), hv⟩, fun v' H' hy => ?_⟩
    obtain ⟨rfl, hy⟩ := hy
    have e := hy us (.inl (.inl k1))
    rw [hv] at e
    cases e
    exact ⟨G3, Ex.refl _, w3, hr⟩
theorem rng_get {a b : Int} {i : Nat} {x : Int} (h : (rng a b)[i]? = some x) : x = a + i ∧ i < (b - a).toNat := by
  unfold rng at h
  rw [List.getElem?_map] at h
  by_cases e : i < (b - a).toNat
  · rw [List.getElem?_range e] at h
    exact ⟨(Option.some.inj h).symm, e⟩
  · rw [List.getElem?_eq_none (by rw [List.length_range]; omega)] at h
    cases h
theorem wk_rng1 {xs : List Int} (h : Ev ta τ O b O') (hr : rngO 0 b = some xs) : Wk (iRng1 (tCons ta tNil)) τ O xs O' KT := fun σ G0 G H s w R q =>
  h σ G0 G H s w _ fun v G2 H2 e2 w2 r2 => by
    obtain ⟨rfl, h1, h2, h3, h4, h5⟩ := rngO_ok hr
    refine ⟨b, by cases r2; rfl, by omega, by omega, q _ G2 H2 e2 w2 (fun G0' G3 H3 O3 i e3 w3 k3 => ⟨fun x hx => ?_, fun hi => ?_⟩) (by rw [rng_length]; omega)⟩
    · obtain ⟨rfl, hi⟩ := rng_get hx
      rw [Int.sub_zero] at hi
      exact ⟨hi, fun v' H' hy => by
        obtain ⟨rfl, rfl⟩ := hy
        exact ⟨G3, Ex.refl _, w3, rfl⟩⟩
    · rw [rng_length, Int.sub_zero] at hi
      exact hi
theorem wk_rng2 {xs : List Int} (ha : Ev ta τ O a O1) (h : Ev tb τ O1 b O') (hr : rngO a b = some xs) : Wk (iRng2 (tCons ta (tCons tb tNil))) τ O xs O' KT := fun σ G0 G H s w R q =>
  ha σ G0 G H s w _ fun v1 G1 H1 e1 w1 r1 => h σ G0 G1 H1 (s.mono e1) w1 _ fun v G2 H2 e2 w2 r2 => by
    obtain ⟨rfl, h1, h2, h3, h4, h5⟩ := rngO_ok hr
    refine ⟨a, b, by cases r1; cases r2; rfl, ⟨by omega, by omega, by omega, by omega⟩, q _ G2 H2 (e1.trans e2) w2 (fun G0' G3 H3 O3 i e3 w3 k3 => ⟨fun x hx => ?_, fun hi => ?_⟩) (by rw [rng_length]; omega)⟩
    · obtain ⟨rfl, hi⟩ := rng_get hx
      exact ⟨hi, fun v' H' hy => by
        obtain ⟨rfl, rfl⟩ := hy
        exact ⟨G3, Ex.refl _, w3, rfl⟩⟩
    · rw [rng_length] at hi
      exact hi

/-! ### statements -/
def Nx (G0 : Hp) (N : L2.St → Hp → Prop) (τ : Env) (O : Own) : Prop := ∀ (σ : L2.St) (G H : Hp), Sl G σ τ → W G0 G O H → N σ H
def RtD (G0 : Hp) (R : VK) (d : Dyn) (O : Own) : Prop := ∀ (v : V) (G H : Hp), W G0 G O H → d.P G v → R v H
def RtC (G0 : Hp) (R : VK) (c : Cell) (O : Own) : Prop := ∀ (l : Addr) (G H : Hp), W G0 G ((l, c) :: O) H → R (.ref l) H
variable {G0 : Hp} {D : Ends} {tu tw : TS} {g : TG} {wi : TI} {R : VK} {c c' : Cell}
theorem RtD.drop {p : Addr × Cell} (h : RtD G0 R d O) : RtD G0 R d (p :: O) := fun v G H w r => h v G H w.drop r
theorem RtC.fr {xs : List α} (h : RtD G0 R (dy xs) O) : RtC G0 R (cL xs) O := fun l G H w => by
  obtain ⟨G2, e, w2, r⟩ := w.freezeL
  exact h _ G2 H w2 r
theorem nx_seq (h : Nx G0 (tu { D with nx := tw D }) τ O) : Nx G0 (tSeq tu tw D) τ O := h
theorem nx_next (h : Nx G0 D.nx τ O) : Nx G0 (tNext D) τ O := h
theorem nx_sub {N : L2.St → Hp → Prop} (u : Sub τ1 τ) (h : Nx G0 N τ1 O) : Nx G0 N τ O := fun σ G H s w => h σ G H (u.sl s) w
theorem nx_dropO {N : L2.St → Hp → Prop} {p : Addr × Cell} (h : Nx G0 N τ O) : Nx G0 N τ (p :: O) := fun σ G H s w => h σ G H s w.drop
theorem nx_asg {x : α} {ws : List Nat} (h : Ev te τ O x O') (hg : Tgt g x τ τ1 ws) (k : Nx G0 D.nx τ1 O') : Nx G0 (tAsg te g D) τ O := fun σ G H s w =>
  h σ G0 G H s w _ fun v G2 H2 e2 w2 r2 => hg σ G2 H2 v _ w2.ex (s.mono e2) r2 fun σ' s' _ => k σ' G2 H2 s' w2
theorem nx_asgD {i : Nat} (h : EvD te τ O d O') (k : Nx G0 D.nx (τ.set i (some d)) O') : Nx G0 (tAsg te (gName i) D) τ O := fun σ G H s w =>
  h σ G0 G H s w _ fun v G2 H2 e2 w2 r2 => k _ G2 H2 ((s.mono e2).set r2 i) w2
theorem nx_asgC {i : Nat} (h : EvC te τ O c O') (k : ∀ l, Nx G0 D.nx (τ.set i (some (dyA l))) ((l, c) :: O')) : Nx G0 (tAsg te (gName i) D) τ O := fun σ G H s w =>
  h σ G0 G H s w _ fun l G2 H2 e2 w2 => k l _ G2 H2 ((s.mono e2).set (d := dyA l) rfl i) w2
theorem nx_ret (h : EvD te τ O d O') (k : RtD G0 D.rt d O') : Nx G0 (tRet te D) τ O := fun σ G H s w =>
  h σ G0 G H s w _ fun v G2 H2 e2 w2 r2 => k v G2 H2 w2 r2
theorem nx_retC (h : EvC te τ O c O') (k : RtC G0 D.rt c O') : Nx G0 (tRet te D) τ O := fun σ G H s w =>
  h σ G0 G H s w _ fun l G2 H2 e2 w2 => k l G2 H2 w2
/-- an own list is handed back -/
theorem perm_front {α : Type} : ∀ {O : List α} {k : Nat} {p : α}, O[k]? = some p → List.Perm (p :: O.eraseIdx k) O
  | [], _, _, h => by simp at h
  | a :: O, 0, p, h => by
    have e : a = p := Option.some.inj h
    subst e
    exact List.Perm.refl _
  | a :: O, k + 1, p, h => by
    have ih := perm_front (O := O) (k := k) (p := p) h
    exact (List.Perm.swap a p _).trans (ih.cons a)
theorem W.front {G H : Hp} {k : Nat} {p : Addr × Cell} (w : W G0 G O H) (h : O[k]? = some p) : W G0 G (p :: O.eraseIdx k) H := w.perm (perm_front h).symm
theorem nx_retO {i k : Nat} {l : Addr} (hi : τ[i]? = some (some (dyA l))) (hk : O[k]? = some (l, c)) (h : RtC G0 D.rt c (O.eraseIdx k)) : Nx G0 (tRet (tVar i) D) τ O := fun σ G H s w => by
  obtain ⟨v, hv, hd⟩ := s.get hi
  have hd : v = .ref l := hd
  subst hd
  exact ⟨_, hv, h l G H (w.front hk)⟩
theorem nx_retN (k : RtD G0 D.rt (dy ()) O) : Nx G0 (tRetN D) τ O := fun σ G H s w => k _ G H w rfl
theorem nx_if {b : Bool} (h : EvT t τ O b O') (h1 : b = true → Nx G0 (tu D) τ O') (h2 : b = false → Nx G0 (tw D) τ O') : Nx G0 (tIfS t tu tw D) τ O := fun σ G H s w =>
  h σ G0 G H s w _ fun G2 H2 e2 w2 => by
    cases b with
    | true => exact (show tu D σ H2 from h1 rfl σ G2 H2 (s.mono e2) w2)
    | false => exact (show tw D σ H2 from h2 rfl σ G2 H2 (s.mono e2) w2)
theorem nx_drop (h : EvD te τ O d O') (k : Nx G0 D.nx τ O') : Nx G0 (tDrop te D) τ O := fun σ G H s w =>
  h σ G0 G H s w _ fun v G2 H2 e2 w2 r2 => k σ G2 H2 (s.mono e2) w2
/-- xs.append(e) -/
theorem nx_app {i k : Nat} {l : Addr} {xs ys : List α} {x : α} (hi : τ[i]? = some (some (dyA l))) (h : Ev te τ O x O') (hk : O'[k]? = some (l, cL xs)) {xs0 : List α} (hk0 : O[k]? = some (l, cL xs0)) (hz : appO xs x = some ys) (q : Nx G0 D.nx τ (O'.set k (l, cL ys))) :
    Nx G0 (tDrop (tBM K "list" rAppend (tVar i) (tCons te tNil)) D) τ O := fun σ G H s w => by
  obtain ⟨rfl, hl⟩ := appO_ok hz
  obtain ⟨v, hv, hd⟩ := s.get hi
  have hd : v = .ref l := hd
  subst hd
  obtain ⟨_, o, ho, vs, rfl, _, _⟩ := w.get hk0
  refine ⟨_, hv, .inl ⟨rfl, vs, .inl (.inl ho)⟩, h σ G0 G H s w _ fun v G2 H2 e2 w2 r2 => ?_⟩
  obtain ⟨_, o2, ho2, us, rfl, hr, _⟩ := w2.get hk
  refine ⟨l, us, v, rfl, rfl, ho2, Nat.lt_of_lt_of_le (by rw [hr.length]; exact hl) (by decide), ?_⟩
  refine q σ G2 _ (s.mono e2) (w2.put (c' := cL1 (xs ++ [x])) hk ⟨_, rfl, hr.append ⟨r2, trivial⟩, ?_⟩)
  rw [List.length_append]
  show xs.length + 1 ≤ 1000000
  omega
/-- xs[i] = e -/
theorem nx_setL {i k : Nat} {l : Addr} {xs ys : List α} {x : α} {n : Int} (h : Ev te τ O x O1) (hi : τ[i]? = some (some (dyA l))) (hb : Ev tb τ O1 n O2) (hk : O2[k]? = some (l, cL xs)) (hz : setO xs n x = some ys) (q : Nx G0 D.nx τ (O2.set k (l, cL ys))) :
    Nx G0 (tAsg te (gSub (tVar i) tb rSetL) D) τ O := fun σ G H s w => by
  obtain ⟨j, hj, rfl⟩ := setO_ok hz
  refine h σ G0 G H s w _ fun v G2 H2 e2 w2 r2 => ?_
  obtain ⟨vl, hv, hd⟩ := s.get hi
  have hd : vl = .ref l := hd
  subst hd
  refine ⟨_, hv, hb σ G0 G2 H2 (s.mono e2) w2 _ fun v3 G3 H3 e3 w3 r3 => ?_⟩
  obtain ⟨_, o2, ho2, us, rfl, hr, hl⟩ := w3.get hk
  refine ⟨l, us, n, j, rfl, r3, ho2, by rw [hr.length]; exact hj, ?_⟩
  refine q σ G3 _ ((s.mono e2).mono e3) (w3.put (c' := cL1 (xs.set j x)) hk ⟨_, rfl, hr.set (Rp.mono e3 r2) j, by rw [List.length_set]; exact hl⟩)
/-- a, b = e, f -/
theorem nx_par {i j : Nat} {d1 d2 : Dyn} (h : EvA tr τ O [d1, d2] O') (k : Nx G0 D.nx ((τ.set i (some d1)).set j (some d2)) O') : Nx G0 (tPar i j tr D) τ O := fun σ G H s w =>
  h σ G0 G H s w _ fun vs G2 H2 e2 w2 r2 => match vs, r2 with
    | [v1, v2], ⟨r1, r3, _⟩ => ⟨v1, v2, rfl, k _ G2 H2 (((s.mono e2).set r1 i).set r3 j) w2⟩
end
end DL
end
section
namespace DL
open PySem PySem.Spec PyProof.Rows L2
open Rp (rp)
section
variable {α β γ δ : Type} [Rp α] [Rp β] [Rp γ] [Rp δ] {K : PySem.W.Frag} {τ τ1 τ2 τ3 τ4 : Env} {O O1 O2 O3 O' : Own} {ta tb tc te tl : TE} {t u : TT} {tr : TA} {d : Dyn} {ds : List Dyn} {a b r : Int}
variable {G0 : Hp} {D : Ends} {tu tw : TS} {g : TG} {wi : TI} {R : VK} {c c' : Cell}
/-! ### loops -/
theorem forO_cons {α σ ρ : Type} {x : α} {xs : List α} {s : σ} {f : α → σ → Option (Fl σ ρ)} {fl : Fl σ ρ} (h : forO (x :: xs) s f = some fl) : ∃ fl', f x s = some fl' ∧ ((∃ s', fl' = .next s' ∧ forO xs s' f = some fl) ∨ ∃ r, fl' = .ret r ∧ fl = .ret r) := by
  obtain ⟨fl', h1, h2⟩ := bE h
  refine ⟨fl', h1, ?_⟩
  cases fl' with
  | next s' => exact .inl ⟨s', rfl, h2⟩
  | ret r => exact .inr ⟨r, rfl, (Option.some.inj h2).symm⟩
/-- what a loop's body is to show -/
def Bd {σ ρ α : Type} [Rp α] (G0 : Hp) (D : Ends) (tb : TS) (g : TG) (τI : σ → Env) (OI : σ → Own) (fl : Fl σ ρ) (x : α) (s : σ) (fl' : Fl σ ρ) : Prop :=
  ∀ D' : Ends, D'.rt = D.rt → (∀ s', fl' = .next s' → Nx G0 D'.nx (τI s') (OI s')) → (∀ r, fl' = .ret r → fl = .ret r) → ∃ τ' ws, Tgt g x (τI s) τ' ws ∧ Nx G0 (tb D') τ' (OI s)
theorem RtD.up {G1 : Hp} (e : Ex G0 G1) (h : RtD G0 R d O) : RtD G1 R d O := fun v G H w r => h v G H (w.up e) r
theorem RtC.up {G1 : Hp} (e : Ex G0 G1) (h : RtC G0 R c O) : RtC G1 R c O := fun l G H w => h l G H (w.up e)
theorem nx_for {σ ρ : Type} {xs : List α} {s0 : σ} {τI : σ → Env} {OI : σ → Own} {f : α → σ → Option (Fl σ ρ)} {fl : Fl σ ρ} {Kp : Own → Prop} (hm : forO xs s0 f = some fl) (hw : Wk wi τ O xs (OI s0) Kp) (hs : Sub (τI s0) τ) (hk : ∀ s, Kp (OI s))
    (hb : ∀ G1, Ex G0 G1 → ∀ x s fl', x ∈ xs → f x s = some fl' → Bd G1 D tu g τI OI fl x s fl') (hn : ∀ s, fl = .next s → Nx G0 D.nx (τI s) (OI s)) : Nx G0 (tFor wi g tu D) τ O := fun σ G H s w =>
  hw σ G0 G H s w _ fun J G2 H2 e2 w2 ok hl => by
    have e02 : Ex G0 G2 := w2.base
    refine ⟨fun i m σ' H' => m = xs.length - i ∧ i ≤ xs.length ∧ ∃ s G', Sl G' σ' (τI s) ∧ W G2 G' (OI s) H' ∧ forO (xs.drop i) s f = some fl, ⟨xs.length, by omega, by omega, s0, G2, (hs.sl s).mono e2, w2.start, by rw [List.drop_zero]; exact hm⟩, ?_⟩
    rintro i m σ' H' ⟨rfl, hi, s', G', sl, w', hf⟩
    by_cases hlt : i < xs.length
    · have hx : xs[i]? = some xs[i] := List.getElem?_eq_getElem hlt
      have hd : xs.drop i = xs[i] :: xs.drop (i + 1) := List.drop_eq_getElem_cons hlt
      rw [hd] at hf
      obtain ⟨fl', h1, h2⟩ := forO_cons hf
      obtain ⟨go, yld⟩ := (ok G2 G' H' (OI s') i w'.base w' (hk s')).1 _ hx
      refine .inr ⟨go, fun σ' H' => ∃ s G', Sl G' σ' (τI s) ∧ W G2 G' (OI s) H' ∧ forO (xs.drop (i + 1)) s f = some fl, fun σ3 H3 h3 => ⟨xs.length - (i + 1), by omega, rfl, hlt, h3⟩, fun v H3 hy => ?_⟩
      obtain ⟨G3, e3, w3, r3⟩ := yld v H3 hy
      obtain ⟨τ', ws, ht, hb⟩ := hb G2 e02 xs[i] s' fl' (List.getElem_mem hlt) h1 { D with nx := fun σ' H' => ∃ s G', Sl G' σ' (τI s) ∧ W G2 G' (OI s) H' ∧ forO (xs.drop (i + 1)) s f = some fl, ct := fun σ' H' => ∃ s G', Sl G' σ' (τI s) ∧ W G2 G' (OI s) H' ∧ forO (xs.drop (i + 1)) s f = some fl, bk := D.nx } rfl
        (fun s4 e4 σ4 G4 H4 sl4 w4 => by
          rcases h2 with ⟨s5, e5, h5⟩ | ⟨r, e5, _⟩
          · rw [e4] at e5
            cases e5
            exact ⟨s4, G4, sl4, w4, h5⟩
          · rw [e4] at e5
            cases e5)
        (fun r er => by
          rcases h2 with ⟨s5, e5, h5⟩ | ⟨r', e5, h5⟩
          · rw [er] at e5
            cases e5
          · rw [er] at e5
            cases e5
            exact h5)
      exact ht σ' G3 H3 v _ w3.ex (sl.mono e3) r3 fun σ4 s4 _ => hb σ4 G3 H3 s4 w3
    · have ei : i = xs.length := by omega
      subst ei
      rw [List.drop_length] at hf
      have hf : fl = .next s' := (Option.some.inj hf).symm
      exact .inl ⟨(ok G2 G' H' (OI s') _ w'.base w' (hk s')).2 (Nat.le_refl _), hn s' hf σ' G' H' sl (w'.up e02)⟩
theorem whileO_succ {σ ρ : Type} {n : Nat} {s : σ} {cc : σ → Option Bool} {f : σ → Option (Fl σ ρ)} {fl : Fl σ ρ} (h : whileO (n + 1) s cc f = some fl) :
    ∃ b, cc s = some b ∧ ((b = false ∧ fl = .next s) ∨ (b = true ∧ ∃ fl', f s = some fl' ∧ ((∃ s', fl' = .next s' ∧ whileO n s' cc f = some fl) ∨ ∃ r, fl' = .ret r ∧ fl = .ret r))) := by
  obtain ⟨b, h1, h2⟩ := bE h
  refine ⟨b, h1, ?_⟩
  cases b with
  | false => exact .inl ⟨rfl, (Option.some.inj h2).symm⟩
  | true =>
    obtain ⟨fl', h3, h4⟩ := bE h2
    refine .inr ⟨rfl, fl', h3, ?_⟩
    cases fl' with
    | next s' => exact .inl ⟨s', rfl, h4⟩
    | ret r => exact .inr ⟨r, rfl, (Option.some.inj h4).symm⟩
def BdW {σ ρ : Type} (G0 : Hp) (D : Ends) (tb : TS) (τI : σ → Env) (OI : σ → Own) (fl : Fl σ ρ) (s : σ) (fl' : Fl σ ρ) : Prop :=
  ∀ D' : Ends, D'.rt = D.rt → (∀ s', fl' = .next s' → Nx G0 D'.nx (τI s') (OI s')) → (∀ r, fl' = .ret r → fl = .ret r) → Nx G0 (tb D') (τI s) (OI s)
theorem nx_while {σ ρ : Type} {s0 : σ} {n : Nat} {τI : σ → Env} {OI : σ → Own} {cc : σ → Option Bool} {f : σ → Option (Fl σ ρ)} {fl : Fl σ ρ} (hm : whileO n s0 cc f = some fl) (hO : O = OI s0) (hs : Sub (τI s0) τ)
    (hc : ∀ s b, cc s = some b → EvT t (τI s) (OI s) b (OI s)) (hb : ∀ s fl', cc s = some true → f s = some fl' → BdW G0 D tu τI OI fl s fl') (hn : ∀ s, fl = .next s → Nx G0 D.nx (τI s) (OI s)) : Nx G0 (tWhile t tu D) τ O := fun σ G H s w => by
  subst hO
  refine ⟨fun m σ' H' => ∃ s G', Sl G' σ' (τI s) ∧ W G0 G' (OI s) H' ∧ whileO m s cc f = some fl, ⟨n, s0, G, hs.sl s, w, hm⟩, ?_⟩
  rintro m σ' H' ⟨s', G', sl, w', hf⟩
  cases m with
  | zero => cases hf
  | succ m =>
    obtain ⟨b, h1, h2⟩ := whileO_succ hf
    refine hc s' b h1 σ' G0 G' H' sl w' _ fun G3 H3 e3 w3 => ?_
    rcases h2 with ⟨rfl, h2⟩ | ⟨rfl, fl', h2, h3⟩
    · exact hn s' h2 σ' G3 H3 (sl.mono e3) w3
    · refine ⟨fun σ' H' => ∃ s G', Sl G' σ' (τI s) ∧ W G0 G' (OI s) H' ∧ whileO m s cc f = some fl, fun σ4 H4 h4 => ⟨m, Nat.lt_succ_self m, h4⟩, ?_⟩
      refine hb s' fl' h1 h2 _ ?_ ?_ ?_ σ' G3 H3 (sl.mono e3) w3
      · rfl
      · intro s4 e4 σ4 G4 H4 sl4 w4
        rcases h3 with ⟨s5, e5, h5⟩ | ⟨r, e5, _⟩
        · rw [e4] at e5
          cases e5
          exact ⟨s4, G4, sl4, w4, h5⟩
        · rw [e4] at e5
          cases e5
      · intro r er
        rcases h3 with ⟨s5, e5, h5⟩ | ⟨r', e5, h5⟩
        · rw [er] at e5
          cases e5
        · rw [er] at e5
          cases e5
          exact h5

/-! ### comprehensions -/
theorem filS_cons {α β σ : Type} {x : α} {xs : List α} {s s2 : σ} {f : α → σ → Option (Option β × σ)} {ys : List β} (h : filS (x :: xs) s f = some (ys, s2)) :
    ∃ o s1 zs, f x s = some (o, s1) ∧ filS xs s1 f = some (zs, s2) ∧ ys = o.toList ++ zs := by
  obtain ⟨p, h1, h2⟩ := bE h
  obtain ⟨q, h3, h4⟩ := mE h2
  obtain ⟨o, s1⟩ := p
  obtain ⟨zs, s3⟩ := q
  cases h4
  refine ⟨o, s1, zs, h1, h3, ?_⟩
  cases o <;> rfl
/-- what a comprehension's item is to show -/
def El {α : Type} [Rp α] (g : TG) (tt : TT) (te : TE) (τ : Env) (ws : List Nat) (O : Own) {β : Type} [Rp β] (x : α) (o : Option β) (O' : Own) : Prop :=
  ∃ τ' us b Ot, Tgt g x τ τ' us ∧ (∀ i ∈ us, i ∈ ws) ∧ EvT tt τ' O b Ot ∧ (b = true → ∃ y, o = some y ∧ Ev te τ' Ot y O') ∧ (b = false → o = none ∧ Ot = O')
theorem filS_len {α β σ : Type} {f : α → σ → Option (Option β × σ)} : ∀ {xs : List α} {s s2 : σ} {ys : List β}, filS xs s f = some (ys, s2) → ys.length ≤ xs.length
  | [], s, s2, ys, h => by cases h; exact Nat.le_refl _
  | x :: xs, s, s2, ys, h => by
    obtain ⟨o, s1, zs, h1, h2, rfl⟩ := filS_cons h
    have ih := filS_len h2
    cases o <;> simp <;> omega
theorem en_lcS {σ : Type} {xs : List α} {s0 s1 : σ} {OI : σ → Own} {f : α → σ → Option (Option β × σ)} {ys : List β} {Kp : Own → Prop} {tt : TT} {ws : List Nat} (hm : filS xs s0 f = some (ys, s1)) (hw : Wk wi τ O xs (OI s0) Kp) (hk : ∀ s p, Kp (p :: OI s))
    (hb : ∀ (p : Addr × Cell) x s o s', x ∈ xs → f x s = some (o, s') → El g tt te (wipeT τ ws) ws (p :: OI s) x o (p :: OI s')) : EvN (tLc wi g tt te ws) τ O ys (OI s1) := fun σ G0 G H s w Q q =>
  hw σ G0 G H s w _ fun J G2 H2 e2 w2 ok hl L hL => by
    have e02 : Ex G0 G2 := w2.base
    refine ⟨fun i m H' => m = xs.length - i ∧ i ≤ xs.length ∧ ∃ s G' acc zs, W G2 G' ((L, cL (acc : List β)) :: OI s) H' ∧ filS (xs.drop i) s f = some (zs, s1) ∧ acc ++ zs = ys ∧ acc.length ≤ i, ⟨xs.length, by omega, by omega, s0, G2, [], ys, ?_, by rw [List.drop_zero]; exact hm, rfl, Nat.le_refl _⟩, ?_⟩
    · exact (w2.start).alloc (c := cL1 ([] : List β)) hL ⟨[], rfl, trivial, Nat.zero_le _⟩
    rintro i m H' ⟨rfl, hi, s', G', acc, zs, w', hf, hz, ha⟩
    have sl : Sl G' σ τ := (s.mono e2).mono w'.base
    by_cases hlt : i < xs.length
    · have hx : xs[i]? = some xs[i] := List.getElem?_eq_getElem hlt
      have hd : xs.drop i = xs[i] :: xs.drop (i + 1) := List.drop_eq_getElem_cons hlt
      rw [hd] at hf
      obtain ⟨o, s2, zs2, h1, h2, rfl⟩ := filS_cons hf
      obtain ⟨go, yld⟩ := (ok G2 G' H' _ i w'.base w' (hk s' _)).1 _ hx
      refine .inr ⟨go, fun H' => ∃ s G' acc zs, W G2 G' ((L, cL (acc : List β)) :: OI s) H' ∧ filS (xs.drop (i + 1)) s f = some (zs, s1) ∧ acc ++ zs = ys ∧ acc.length ≤ i + 1, fun H3 h3 => ⟨xs.length - (i + 1), by omega, rfl, hlt, h3⟩, fun v H3 hy => ?_⟩
      obtain ⟨G3, e3, w3, r3⟩ := yld v H3 hy
      obtain ⟨τ', us, b, Ot, ht, hu, et, b1, b0⟩ := hb (L, cL acc) xs[i] s' o s2 (List.getElem_mem hlt) h1
      refine ht (L2.wipe σ ws) G3 H3 v _ w3.ex ((sl.mono e3).wipe ws) r3 fun σ4 s4 hwp => ⟨?_, ?_⟩
      · rw [hwp ws hu]
        exact wipe_wipe σ ws
      refine et σ4 G2 G3 H3 s4 w3 _ fun G4 H4 e4 w4 => ?_
      cases b with
      | true =>
        obtain ⟨y, rfl, he⟩ := b1 rfl
        refine (show te σ4 H4 _ from he σ4 G2 G4 H4 (s4.mono e4) w4 _ fun v5 G5 H5 e5 w5 r5 => ?_)
        obtain ⟨_, oo, hoo, vs, rfl, hr, hlen⟩ := w5.get (k := 0) rfl
        refine ⟨vs, hoo, Nat.lt_of_lt_of_le (by rw [hr.length]; exact Nat.lt_of_le_of_lt ha (Nat.lt_of_lt_of_le hlt hl)) (by decide), s2, G5, acc ++ [y], zs2, ?_, h2, ?_, ?_⟩
        · exact w5.put (k := 0) (c' := cL1 (acc ++ [y])) rfl ⟨_, rfl, hr.append ⟨r5, trivial⟩, by rw [List.length_append]; show acc.length + 1 ≤ 1000000; omega⟩
        · rw [← hz]
          simp
        · rw [List.length_append]
          show acc.length + 1 ≤ i + 1
          omega
      | false =>
        obtain ⟨rfl, rfl⟩ := b0 rfl
        exact ⟨s2, G4, acc, zs2, w4, h2, by rw [← hz]; rfl, by omega⟩
    · have ei : i = xs.length := by omega
      subst ei
      rw [List.drop_length] at hf
      cases hf
      rw [List.append_nil] at hz
      subst hz
      exact .inl ⟨(ok G2 G' H' _ _ w'.base w' (hk _ _)).2 (Nat.le_refl _), q L G' H' (e2.trans w'.base) (w'.up e02)⟩
/-- the simpler comprehensions -/
theorem filS_map {α β σ : Type} {f : α → σ → Option (β × σ)} : ∀ {xs : List α} {s s2 : σ} {ys : List β}, mapS xs s f = some (ys, s2) → filS xs s (fun x s => (f x s).map fun p => (some p.1, p.2)) = some (ys, s2)
  | [], s, s2, ys, h => h
  | x :: xs, s, s2, ys, h => by
    obtain ⟨p, h1, h2⟩ := bE h
    obtain ⟨q, h3, h4⟩ := mE h2
    cases h4
    show Option.bind ((f x s).map _) _ = _
    rw [h1]
    show Option.map _ (filS xs p.2 _) = _
    rw [filS_map h3]
    rfl
theorem filS_filO {α β : Type} {f : α → Option (Option β)} : ∀ {xs : List α} {ys : List β}, filO xs f = some ys → filS xs () (fun x _ => (f x).map fun o => (o, ())) = some (ys, ())
  | [], ys, h => by cases h; rfl
  | x :: xs, ys, h => by
    obtain ⟨p, h1, h2⟩ := bE h
    obtain ⟨q, h3, h4⟩ := mE h2
    cases h4
    show Option.bind ((f x).map _) _ = _
    rw [h1]
    show Option.map _ (filS xs () _) = _
    rw [filS_filO h3]
    cases p <;> rfl
theorem filS_mapO {α β : Type} {f : α → Option β} : ∀ {xs : List α} {ys : List β}, mapO xs f = some ys → filS xs () (fun x _ => (f x).map fun o => (some o, ())) = some (ys, ())
  | [], ys, h => by cases h; rfl
  | x :: xs, ys, h => by
    obtain ⟨p, h1, h2⟩ := bE h
    obtain ⟨q, h3, h4⟩ := mE h2
    cases h4
    show Option.bind ((f x).map _) _ = _
    rw [h1]
    show Option.map _ (filS xs () _) = _
    rw [filS_mapO h3]
    rfl
def ElT {α : Type} [Rp α] (g : TG) (te : TE) (τ : Env) (ws : List Nat) (O : Own) {β : Type} [Rp β] (x : α) (y : β) (O' : Own) : Prop :=
  ∃ τ' us, Tgt g x τ τ' us ∧ (∀ i ∈ us, i ∈ ws) ∧ Ev te τ' O y O'
theorem et_yes : EvT tYes τ O true O := fun σ G0 G H s w Q q => q G H (Ex.refl _) w
theorem en_mapS {σ : Type} {xs : List α} {s0 s1 : σ} {OI : σ → Own} {f : α → σ → Option (β × σ)} {ys : List β} {Kp : Own → Prop} {ws : List Nat} (hm : mapS xs s0 f = some (ys, s1)) (hw : Wk wi τ O xs (OI s0) Kp) (hk : ∀ s p, Kp (p :: OI s))
    (hb : ∀ (p : Addr × Cell) x s y s', x ∈ xs → f x s = some (y, s') → ElT g te (wipeT τ ws) ws (p :: OI s) x y (p :: OI s')) : EvN (tLc wi g tYes te ws) τ O ys (OI s1) :=
  en_lcS (filS_map hm) hw hk fun p x s o s' hx h => by
    obtain ⟨q, h1, h2⟩ := mE h
    cases h2
    obtain ⟨τ', us, ht, hu, he⟩ := hb p x s q.1 q.2 hx h1
    exact ⟨τ', us, true, _, ht, hu, et_yes, fun _ => ⟨q.1, rfl, he⟩, fun z => by cases z⟩
theorem en_filO {xs : List α} {f : α → Option (Option β)} {ys : List β} {Kp : Own → Prop} {tt : TT} {ws : List Nat} (hm : filO xs f = some ys) (hw : Wk wi τ O xs O' Kp) (hk : ∀ p, Kp (p :: O'))
    (hb : ∀ (p : Addr × Cell) x o, x ∈ xs → f x = some o → El g tt te (wipeT τ ws) ws (p :: O') x o (p :: O')) : EvN (tLc wi g tt te ws) τ O ys O' :=
  en_lcS (OI := fun _ : Unit => O') (filS_filO hm) hw (fun _ p => hk p) fun p x s o s' hx h => by
    obtain ⟨q, h1, h2⟩ := mE h
    have e1 := congrArg Prod.fst h2
    have e1 : q = o := e1
    subst e1
    exact hb p x q hx h1
theorem en_mapO {xs : List α} {f : α → Option β} {ys : List β} {Kp : Own → Prop} {ws : List Nat} (hm : mapO xs f = some ys) (hw : Wk wi τ O xs O' Kp) (hk : ∀ p, Kp (p :: O'))
    (hb : ∀ (p : Addr × Cell) x y, x ∈ xs → f x = some y → ElT g te (wipeT τ ws) ws (p :: O') x y (p :: O')) : EvN (tLc wi g tYes te ws) τ O ys O' :=
  en_lcS (OI := fun _ : Unit => O') (filS_mapO hm) hw (fun _ p => hk p) fun p x s o s' hx h => by
    obtain ⟨q, h1, h2⟩ := mE h
    cases h2
    obtain ⟨τ', us, ht, hu, he⟩ := hb p x q hx h1
    exact ⟨τ', us, true, _, ht, hu, et_yes, fun _ => ⟨q, rfl, he⟩, fun z => by cases z⟩

/-! ### calls -/
inductive Res where
  | fro (d : Dyn)
  | new (c : Cell)
  | own (cs : List Cell) (d : List Addr → Dyn)
def RtO (G0 : Hp) (R : VK) (cs : List Cell) (d : List Addr → Dyn) (O : Own) : Prop := ∀ (as : List Addr) (v : V) (G H : Hp), as.length = cs.length → W G0 G (as.zip cs ++ O) H → (d as).P G v → R v H
def RtR (G0 : Hp) (R : VK) : Res → Own → Prop
  | .fro d, O => RtD G0 R d O
  | .new c, O => RtC G0 R c O
  | .own cs d, O => RtO G0 R cs d O
abbrev Spec := List Dyn → Own → Res → Own → Prop
def sp (S : Spec) : Sp := fun vs H Q _ => ∃ G ds O r O', Vs G vs ds ∧ W G G O H ∧ S ds O r O' ∧ RtR G Q r O'
theorem ev_call {S : Spec} {E : XK} {d : Dyn} (h : EvA tr τ O ds O1) (hs : S ds O1 (.fro d) O2) : EvD (tCall (sp S) [] E tr) τ O d O2 := fun σ G0 G H s w Q q =>
  h σ G0 G H s w _ fun vs G2 H2 e2 w2 r2 => by
    rw [List.append_nil]
    exact ⟨G2, ds, O1, .fro d, O2, r2, w2.start, hs, fun v G3 H3 w3 r3 => q v G3 H3 (e2.trans w3.base) (w2.back w3) r3⟩
theorem ec_call {S : Spec} {E : XK} {c : Cell} (h : EvA tr τ O ds O1) (hs : S ds O1 (.new c) O2) : EvC (tCall (sp S) [] E tr) τ O c O2 := fun σ G0 G H s w Q q =>
  h σ G0 G H s w _ fun vs G2 H2 e2 w2 r2 => by
    rw [List.append_nil]
    exact ⟨G2, ds, O1, .new c, O2, r2, w2.start, hs, fun l G3 H3 w3 => q l G3 H3 (e2.trans w3.base) (w2.back w3)⟩
def envT (N : List Str) (ds : List Dyn) : Env := ds.map some ++ List.replicate (N.length - ds.length) none
theorem sl_rep {G : Hp} : ∀ n : Nat, Sl G (List.replicate n none) (List.replicate n none)
  | 0 => trivial
  | n + 1 => ⟨trivial, sl_rep n⟩
theorem sl_app {G : Hp} {σ' : L2.St} {τ' : Env} (k : Sl G σ' τ') : ∀ {vs : List V} {ds : List Dyn}, Vs G vs ds → Sl G (vs.map some ++ σ') (ds.map some ++ τ')
  | [], [], _ => k
  | _ :: _, _ :: _, ⟨h, t⟩ => ⟨h, sl_app k t⟩
  | [], _ :: _, h => h.elim
  | _ :: _, [], h => h.elim
theorem sl_start {G : Hp} {N : List Str} {vs : List V} {ds : List Dyn} (h : Vs G vs ds) : Sl G (L2.start N vs) (envT N ds) := by
  unfold L2.start envT
  rw [h.length]
  exact sl_app (sl_rep _) h
abbrev Fin (Q : VK) : Ends := { nx := fun _ H' => Q .non H', rt := Q }
theorem fn_ok {P : Program} {w : World} {mg : Str → Option Value} {base : Heap} {x qual : Str} {st : Stmt} {f : Addr} {fd : FuncData} {N ps : List Str} {k : Nat} {S : Spec} (F : Fun K x qual st f fd) (Sc : FnScope N ps (defScope st)) (hl : ∀ ds O r O', S ds O r O' → ds.length = ps.length)
    (hb : ∀ (cdv : Value) (A : Around) (outer : List PySem.Env) (s : Shared) (H : Hp) (E : XK), Room k (A.deeper (envOfC qual (defScope st) s.heap.objs.size f cdv)) →
      ∃ t, PSs (cxOf CX0 P w K mg base N qual (defScope st) f cdv A outer s H E).nox (defBody st) t ∧ ∀ ds O r O', S ds O r O' → ∀ (G0 : Hp) (Q : VK), RtR G0 Q r O' → Nx G0 (t (Fin Q)) (envT N ds) O) : FnOk P w K mg base CX0 (k + 1) f fd ps (sp S) := by
  refine F.ok Sc (fun vs H Q E h => ?_) (fun cdv A outer s H vs Q E hr h => ?_)
  · obtain ⟨G, ds, O, r, O', hv, _, hs, _⟩ := h
    rw [hv.length]
    exact hl ds O r O' hs
  · obtain ⟨G, ds, O, r, O', hv, hw, hs, hq⟩ := h
    obtain ⟨t, h1, h2⟩ := hb cdv A outer s H E hr
    exact ⟨t, h1, h2 ds O r O' hs G Q hq (start N vs) G H (sl_start hv) hw⟩
end
end DL
end
section
namespace DL
open PySem PySem.Spec PyProof.Rows L2
open Rp (rp)
theorem Vs.get {G : Hp} : ∀ {vs : List V} {ds : List Dyn} {i : Nat} {d : Dyn}, Vs G vs ds → ds[i]? = some d → ∃ v, vs[i]? = some v ∧ d.P G v
  | [], [], _, _, _, e => by simp at e
  | v :: _, _ :: _, 0, _, ⟨h, _⟩, e => by
    have e := Option.some.inj e
    subst e
    exact ⟨v, rfl, h⟩
  | _ :: _, _ :: _, i + 1, _, ⟨_, t⟩, e => Vs.get (i := i) t e
  | [], _ :: _, _, _, h, _ => h.elim
  | _ :: _, [], _, _, h, _ => h.elim
theorem Vs.set {G : Hp} {v : V} {d : Dyn} (k : d.P G v) : ∀ {vs : List V} {ds : List Dyn} (i : Nat), Vs G vs ds → Vs G (vs.set i v) (ds.set i d)
  | [], [], _, _ => trivial
  | _ :: _, _ :: _, 0, ⟨_, t⟩ => ⟨k, t⟩
  | _ :: _, _ :: _, i + 1, ⟨h, t⟩ => ⟨h, Vs.set k i t⟩
  | [], _ :: _, _, h => h.elim
  | _ :: _, [], _, h => h.elim
def cH1 (ds : List Dyn) : Cell1 := ⟨fun G o => ∃ vs, o = .lst vs ∧ Vs G vs ds, fun e ⟨vs, h, k⟩ => ⟨vs, h, k.mono e⟩, fun ⟨_, h, _⟩ z => by rw [h] at z; cases z⟩
abbrev cH (ds : List Dyn) : Cell := (cH1 ds).c
def dyS (K : PySem.W.Frag) (ns : List Int) : Dyn := ⟨fun G v => ∃ a, v = .ref a ∧ SqL K G a (ns.map V.int) ∧ ns.length ≤ 63, fun e ⟨a, h, k, l⟩ => ⟨a, h, by
  rcases k with (k | ⟨o, k⟩) | k
  · exact .inl (.inl (e _ _ k))
  · exact .inl (.inr ⟨o, e _ _ k⟩)
  · exact .inr k, l⟩⟩
section
variable {α β γ δ : Type} [Rp α] [Rp β] [Rp γ] [Rp δ] {K : PySem.W.Frag} {τ τ1 τ2 τ3 τ4 : Env} {O O1 O2 O3 O' : Own} {ta tb tc te tl : TE} {t u : TT} {tr : TA} {d d' : Dyn} {ds : List Dyn} {a b r : Int}
variable {G0 : Hp} {D : Ends} {tu tw : TS} {g : TG} {wi : TI} {R : VK} {c c' : Cell} {ns : List Int} {lo hi : Option Int} {tlo thi : TO}
theorem ec_lstH (h : EvA tr τ O ds O1) (hl : ds.length ≤ 1000000) : EvC (tLst tr) τ O (cH ds) O1 := fun σ G0 G H s w Q q =>
  h σ G0 G H s w _ fun vs G2 H2 e2 w2 r2 => ⟨sz_small (by rw [r2.length]; exact hl), fun p hp => q p G2 _ e2 (w2.alloc (c := cH1 ds) hp ⟨vs, rfl, r2⟩)⟩
theorem ixN_nat {n j : Nat} (hj : j < n) : ixN n (j : Int) = some j := by
  unfold ixN
  rw [if_pos (by omega), if_pos (by omega)]
  simp
theorem ev_ixH {i k : Nat} {l : Addr} (n : Nat) (hi : τ[i]? = some (some (dyA l))) (hk : O[k]? = some (l, cH ds)) (hd : ds[n]? = some d) : EvD (tOp (rIxL K) (tVar i) (tC (.int (n : Int)))) τ O d O := fun σ G0 G H s w Q q => by
  obtain ⟨v, hv, hd'⟩ := s.get hi
  have hd' : v = .ref l := hd'
  subst hd'
  obtain ⟨_, o, ho, vs, rfl, hr⟩ := w.get hk
  obtain ⟨u, hu, hp⟩ := hr.get hd
  exact ⟨_, hv, l, vs, n, u, rfl, rfl, .inl (.inl ho), atI_nat hu, q u G H (Ex.refl _) w hp⟩
theorem nx_setH {i k : Nat} {l : Addr} (n : Nat) (h : EvD te τ O d O1) (hi : τ[i]? = some (some (dyA l))) (hk : O1[k]? = some (l, cH ds)) (hn : n < ds.length) (q : Nx G0 D.nx τ (O1.set k (l, cH (ds.set n d)))) :
    Nx G0 (tAsg te (gSub (tVar i) (tC (.int (n : Int))) rSetL) D) τ O := fun σ G H s w => by
  refine h σ G0 G H s w _ fun v G2 H2 e2 w2 r2 => ?_
  obtain ⟨vl, hv, hd⟩ := s.get hi
  have hd : vl = .ref l := hd
  subst hd
  obtain ⟨_, o2, ho2, us, rfl, hr⟩ := w2.get hk
  refine ⟨_, hv, l, us, n, n, rfl, rfl, ho2, ixN_nat (by rw [hr.length]; exact hn), ?_⟩
  exact q σ G2 _ (s.mono e2) (w2.put (c' := cH1 (ds.set n d)) hk ⟨_, rfl, hr.set r2 n⟩)
/-! the script -/
theorem map_cut (xs : List Int) : cutV (xs.map V.int) lo hi = (cut xs lo hi).map V.int := by
  have e : ∀ (n d : Nat) (o : Option Int), HT.sIx n d o = DL.sIx n d o := fun n d o => by cases o <;> rfl
  unfold cutV DL.cut
  rw [e, e, List.length_map, List.map_take, List.map_drop]
theorem en_cutS (ha : EvD ta τ O (dyS K ns) O1) (h1 : EvO tlo τ O1 lo O2) (h2 : EvO thi τ O2 hi O3) : EvN (tSl (rSlL K) ta tlo thi) τ O (cut ns lo hi) O3 := fun σ G0 G H s w Q q =>
  ha σ G0 G H s w _ fun v G2 H2 e2 w2 r2 => h1 σ G0 G2 H2 (s.mono e2) w2 _ fun G3 H3 e3 w3 => h2 σ G0 G3 H3 ((s.mono e2).mono e3) w3 _ fun G4 H4 e4 w4 => by
    obtain ⟨a, rfl, k, hl⟩ := (dyS K ns).mono (e3.trans (e4.trans w4.ex)) r2
    refine ⟨a, _, rfl, k, fun l hl' => q l G4 _ ((e2.trans e3).trans e4) (w4.alloc (c := cL1 (cut ns lo hi)) hl' ⟨_, rfl, ?_, Nat.le_trans (cut_length _ _ _) (by omega)⟩)⟩
    rw [map_cut]
    exact RpL.ofInts
theorem ev_lenS (ha : EvD ta τ O (dyS K ns) O1) : Ev (tCB (rLenS K) (tCons ta tNil)) τ O (lenI ns) O1 := fun σ G0 G H s w Q q =>
  ha σ G0 G H s w _ fun v G2 H2 e2 w2 r2 => by
    obtain ⟨a, rfl, k, hl⟩ := (dyS K ns).mono w2.ex r2
    exact ⟨a, _, rfl, .inl k, q _ G2 H2 e2 w2 (by rw [List.length_map]; rfl)⟩
end

/-! ### data that == compares -/
class Dt (α : Type) [Rp α] where
  toD : α → PyData
  dn : Nat
  dp : ∀ {K : PySem.W.Frag} {G : Hp} {v : V} {x : α}, rp G v x → Dp K G v (toD x)
  sh : ∀ {G : Hp} {v : V} {x : α}, rp G v x → (toD x).canLay0 = true ∧ (toD x).depth ≤ dn
open Dt (toD)
/-- what == tells of two such -/
class Dq (α β : Type) [Rp α] [Rp β] [Dt α] [Dt β] where
  dq : α → β → Bool
  ok : ∀ (x : α) (y : β), PyData.eqv (toD x) (toD y) = dq x y
instance : Dt Int := ⟨.int, 0, fun h => by cases h; exact .int _, fun h => ⟨by simp [PyData.canLay0], by simp [PyData.depth]⟩⟩
instance : Dt Bool := ⟨.bool, 0, fun h => by cases h; exact .bl _, fun h => ⟨by simp [PyData.canLay0], by simp [PyData.depth]⟩⟩
def optD {α : Type} [Rp α] [Dt α] : Option α → PyData
  | none => .none
  | some x => toD x
instance {α : Type} [Rp α] [Dt α] : Dt (Option α) := ⟨optD, Dt.dn α, fun {K G v x} h => by
  cases x with
  | none =>
    cases h
    exact .non
  | some x => exact Dt.dp (α := α) h, fun {G v x} h => by
  cases x with
  | none => exact ⟨by simp [optD, PyData.canLay0], by simp [optD, PyData.depth]⟩
  | some x => exact Dt.sh (α := α) h⟩
theorem dpAll {α : Type} [Rp α] [Dt α] {K : PySem.W.Frag} {G : Hp} : ∀ {vs : List V} {xs : List α}, RpL G vs xs → DpAll K G vs (xs.map toD)
  | [], [], _ => .nil
  | _ :: _, _ :: _, ⟨h, t⟩ => .cons (Dt.dp h) (dpAll t)
  | [], _ :: _, h => h.elim
  | _ :: _, [], h => h.elim
theorem shAll {α : Type} [Rp α] [Dt α] {G : Hp} : ∀ {vs : List V} {xs : List α}, RpL G vs xs → PyData.canLayAll0 (xs.map toD) = true ∧ PyData.depthAll (xs.map toD) ≤ Dt.dn α
  | [], [], _ => ⟨by simp [PyData.canLayAll0], by simp [PyData.depthAll]⟩
  | _ :: _, _ :: _, ⟨h, t⟩ => by
    obtain ⟨h1, h2⟩ := Dt.sh (α := α) h
    obtain ⟨h3, h4⟩ := shAll (α := α) t
    rw [List.map_cons]
    refine ⟨by rw [PyData.canLayAll0, h1, h3]; rfl, ?_⟩
    rw [PyData.depthAll]
    omega
  | [], _ :: _, h => h.elim
  | _ :: _, [], h => h.elim
instance {α : Type} [Rp α] [Dt α] : Dt (List α) := ⟨fun xs => .list (xs.map toD), Dt.dn α + 1, fun ⟨a, vs, h1, h2, h3, h4⟩ => by
  subst h1
  exact .lst (.inl (.inl h2)) (dpAll h3), fun ⟨a, vs, h1, h2, h3, h4⟩ => by
  obtain ⟨k1, k2⟩ := shAll h3
  exact ⟨by rw [PyData.canLay0]; exact k1, by rw [PyData.depth]; omega⟩⟩
instance {α β : Type} [Rp α] [Rp β] [Dt α] [Dt β] : Dt (T2 α β) := ⟨fun x => .tuple [toD x.a, toD x.b], max (Dt.dn α) (Dt.dn β) + 1, fun ⟨t, v1, v2, h, g, h1, h2⟩ => by
  subst h
  exact .tup (.inl (.inl g)) (.cons (Dt.dp h1) (.cons (Dt.dp h2) .nil)), fun ⟨t, v1, v2, h, g, h1, h2⟩ => by
  obtain ⟨a1, b1⟩ := Dt.sh h1
  obtain ⟨a2, b2⟩ := Dt.sh h2
  exact ⟨by simp only [PyData.canLay0, PyData.canLayAll0, a1, a2]; rfl, by simp only [PyData.depth, PyData.depthAll]; omega⟩⟩
instance {α β γ : Type} [Rp α] [Rp β] [Rp γ] [Dt α] [Dt β] [Dt γ] : Dt (T3 α β γ) := ⟨fun x => .tuple [toD x.a, toD x.b, toD x.c], max (Dt.dn α) (max (Dt.dn β) (Dt.dn γ)) + 1, fun ⟨t, v1, v2, v3, h, g, h1, h2, h3⟩ => by
  subst h
  exact .tup (.inl (.inl g)) (.cons (Dt.dp h1) (.cons (Dt.dp h2) (.cons (Dt.dp h3) .nil))), fun ⟨t, v1, v2, v3, h, g, h1, h2, h3⟩ => by
  obtain ⟨a1, b1⟩ := Dt.sh h1
  obtain ⟨a2, b2⟩ := Dt.sh h2
  obtain ⟨a3, b3⟩ := Dt.sh h3
  exact ⟨by simp only [PyData.canLay0, PyData.canLayAll0, a1, a2, a3]; rfl, by simp only [PyData.depth, PyData.depthAll]; omega⟩⟩
instance {α β γ δ : Type} [Rp α] [Rp β] [Rp γ] [Rp δ] [Dt α] [Dt β] [Dt γ] [Dt δ] : Dt (T4 α β γ δ) := ⟨fun x => .tuple [toD x.a, toD x.b, toD x.c, toD x.d], max (Dt.dn α) (max (Dt.dn β) (max (Dt.dn γ) (Dt.dn δ))) + 1, fun ⟨t, v1, v2, v3, v4, h, g, h1, h2, h3, h4⟩ => by
  subst h
  exact .tup (.inl (.inl g)) (.cons (Dt.dp h1) (.cons (Dt.dp h2) (.cons (Dt.dp h3) (.cons (Dt.dp h4) .nil)))), fun ⟨t, v1, v2, v3, v4, h, g, h1, h2, h3, h4⟩ => by
  obtain ⟨a1, b1⟩ := Dt.sh h1
  obtain ⟨a2, b2⟩ := Dt.sh h2
  obtain ⟨a3, b3⟩ := Dt.sh h3
  obtain ⟨a4, b4⟩ := Dt.sh h4
  exact ⟨by simp only [PyData.canLay0, PyData.canLayAll0, a1, a2, a3, a4]; rfl, by simp only [PyData.depth, PyData.depthAll]; omega⟩⟩
theorem opt_false {α : Type} [Rp α] [NN α] {G : Hp} {x : α} (h : rp G .non x) : False := NN.nn h rfl
/-- a type whose == is equality -/
class De (α : Type) [Rp α] [Dt α] [DecidableEq α] where
  de : ∀ x y : α, PyData.eqv (toD x) (toD y) = decide (x = y)
instance : De Int := ⟨fun x y => by
  show PyData.eqv (.int x) (.int y) = _
  rw [PyData.eqv]
  by_cases e : x = y <;> simp [e]⟩
instance : De Bool := ⟨fun x y => by
  show PyData.eqv (.bool x) (.bool y) = _
  rw [PyData.eqv]
  cases x <;> cases y <;> rfl⟩
/-- no None within -/
class Dz (α : Type) [Rp α] [Dt α] where
  dz : ∀ x : α, PyData.eqv (toD x) .none = false ∧ PyData.eqv .none (toD x) = false
instance : Dz Int := ⟨fun x => by show PyData.eqv (.int x) .none = false ∧ PyData.eqv .none (.int x) = false; simp [PyData.eqv]⟩
instance : Dz Bool := ⟨fun x => by show PyData.eqv (.bool x) .none = false ∧ PyData.eqv .none (.bool x) = false; simp [PyData.eqv]⟩
instance {α : Type} [Rp α] [Dt α] : Dz (List α) := ⟨fun x => by show PyData.eqv (.list _) .none = false ∧ PyData.eqv .none (.list _) = false; simp [PyData.eqv]⟩
instance {α β : Type} [Rp α] [Rp β] [Dt α] [Dt β] : Dz (T2 α β) := ⟨fun x => by show PyData.eqv (.tuple _) .none = false ∧ PyData.eqv .none (.tuple _) = false; simp [PyData.eqv]⟩
instance {α β γ : Type} [Rp α] [Rp β] [Rp γ] [Dt α] [Dt β] [Dt γ] : Dz (T3 α β γ) := ⟨fun x => by show PyData.eqv (.tuple _) .none = false ∧ PyData.eqv .none (.tuple _) = false; simp [PyData.eqv]⟩
instance {α β γ δ : Type} [Rp α] [Rp β] [Rp γ] [Rp δ] [Dt α] [Dt β] [Dt γ] [Dt δ] : Dz (T4 α β γ δ) := ⟨fun x => by show PyData.eqv (.tuple _) .none = false ∧ PyData.eqv .none (.tuple _) = false; simp [PyData.eqv]⟩
instance {α : Type} [Rp α] [Dt α] [DecidableEq α] [De α] [Dz α] : De (Option α) := ⟨fun x y => by
  cases x with
  | none =>
    cases y with
    | none =>
      show PyData.eqv .none .none = _
      rw [PyData.eqv]
      rfl
    | some y =>
      show PyData.eqv .none (toD y) = _
      rw [(Dz.dz y).2]
      simp
  | some x =>
    cases y with
    | none =>
      show PyData.eqv (toD x) .none = _
      rw [(Dz.dz x).1]
      simp
    | some y =>
      show PyData.eqv (toD x) (toD y) = _
      rw [De.de]
      simp⟩
theorem eqvAll_de {α : Type} [Rp α] [Dt α] [DecidableEq α] [De α] : ∀ xs ys : List α, PyData.eqvAll (xs.map toD) (ys.map toD) = decide (xs = ys)
  | [], [] => by simp [PyData.eqvAll]
  | [], _ :: _ => by simp [PyData.eqvAll]
  | _ :: _, [] => by simp [PyData.eqvAll]
  | x :: xs, y :: ys => by
    rw [List.map_cons, List.map_cons, PyData.eqvAll, De.de, eqvAll_de xs ys]
    by_cases e : x = y <;> simp [e]
instance {α : Type} [Rp α] [Dt α] [DecidableEq α] [De α] : De (List α) := ⟨fun x y => by
  show PyData.eqv (.list _) (.list _) = _
  rw [PyData.eqv]
  exact eqvAll_de x y⟩
instance {α β : Type} [Rp α] [Rp β] [Dt α] [Dt β] [DecidableEq α] [DecidableEq β] [De α] [De β] : De (T2 α β) := ⟨fun x y => by
  show PyData.eqv (.tuple _) (.tuple _) = _
  obtain ⟨a, b⟩ := x
  obtain ⟨c, d⟩ := y
  simp only [PyData.eqv, PyData.eqvAll, De.de, T2.mk.injEq, Bool.and_true]
  by_cases e : a = c <;> by_cases f : b = d <;> simp [e, f]⟩
instance {α β γ : Type} [Rp α] [Rp β] [Rp γ] [Dt α] [Dt β] [Dt γ] [DecidableEq α] [DecidableEq β] [DecidableEq γ] [De α] [De β] [De γ] : De (T3 α β γ) := ⟨fun x y => by
  show PyData.eqv (.tuple _) (.tuple _) = _
  obtain ⟨a, b, c⟩ := x
  obtain ⟨d, e, f⟩ := y
  simp only [PyData.eqv, PyData.eqvAll, De.de, T3.mk.injEq, Bool.and_true]
  by_cases h1 : a = d <;> by_cases h2 : b = e <;> by_cases h3 : c = f <;> simp [h1, h2, h3]⟩
instance {α β γ δ : Type} [Rp α] [Rp β] [Rp γ] [Rp δ] [Dt α] [Dt β] [Dt γ] [Dt δ] [DecidableEq α] [DecidableEq β] [DecidableEq γ] [DecidableEq δ] [De α] [De β] [De γ] [De δ] : De (T4 α β γ δ) := ⟨fun x y => by
  show PyData.eqv (.tuple _) (.tuple _) = _
  obtain ⟨a, b, c, p⟩ := x
  obtain ⟨d, e, f, q⟩ := y
  simp only [PyData.eqv, PyData.eqvAll, De.de, T4.mk.injEq, Bool.and_true]
  by_cases h1 : a = d <;> by_cases h2 : b = e <;> by_cases h3 : c = f <;> by_cases h4 : p = q <;> simp [h1, h2, h3, h4]⟩
section
variable {α β γ δ : Type} [Rp α] [Rp β] [Rp γ] [Rp δ] {K : PySem.W.Frag} {τ τ1 τ2 τ3 τ4 : Env} {O O1 O2 O3 O' : Own} {ta tb tc te tl : TE} {t u : TT} {tr : TA} {d d' : Dyn} {ds : List Dyn} {a b r : Int}
mutual
theorem Dp.ex {K : PySem.W.Frag} {G H : Hp} (e : Ex G H) : ∀ {d : PyData} {v : V}, Dp K G v d → Dp K H v d
  | .none, _, h => by cases h; exact .non
  | .bool b, _, h => by cases h; exact .bl _
  | .int i, _, h => by cases h; exact .int _
  | .str x, _, h => by cases h; exact .str _
  | .list ds, _, h => by
    cases h with
    | lst k l => exact .lst (by
      rcases k with (k | ⟨o, k⟩) | k
      · exact .inl (.inl (e _ _ k))
      · exact .inl (.inr ⟨o, e _ _ k⟩)
      · exact .inr k) (DpAll.ex e l)
  | .tuple ds, _, h => by
    cases h with
    | tup k l => exact .tup (by
      rcases k with (k | ⟨o, k⟩) | k
      · exact .inl (.inl (e _ _ k))
      · exact .inl (.inr ⟨o, e _ _ k⟩)
      · exact .inr k) (DpAll.ex e l)
  | .dict _, _, h => by cases h
theorem DpAll.ex {K : PySem.W.Frag} {G H : Hp} (e : Ex G H) : ∀ {ds : List PyData} {vs : List V}, DpAll K G vs ds → DpAll K H vs ds
  | [], _, h => by cases h; exact .nil
  | d :: ds, _, h => by
    cases h with
    | cons a b => exact .cons (Dp.ex e a) (DpAll.ex e b)
end
/-- data to be compared: frozen, or an own list -/
def EvP (te : TE) (τ : Env) (O : Own) (p : PyData) (O' : Own) (K : PySem.W.Frag) (Kp : Own → Prop) : Prop := ∀ (σ : L2.St) (G0 G H : Hp), Sl G σ τ → W G0 G O H → ∀ Q : VK, (∀ (v : V) (G2 H2 : Hp), Ex G G2 → W G0 G2 O' H2 → (∀ (G0 G3 H3 : Hp) (O3 : Own), Ex G2 G3 → W G0 G3 O3 H3 → Kp O3 → Dp K H3 v p) → p.canLay0 = true ∧ p.depth ≤ 64 → Q v H2) → te σ H Q
theorem ep_fr [Dt α] {x : α} (h : Ev te τ O x O') (hd : Dt.dn α ≤ 64 := by decide) : EvP te τ O (toD x) O' K KT := fun σ G0 G H s w Q q => h σ G0 G H s w _ fun v G2 H2 e2 w2 r2 => q v G2 H2 e2 w2 (fun G0 G3 H3 O3 e3 w3 _ => Dp.ex (e3.trans w3.ex) (Dt.dp r2)) ⟨(Dt.sh (α := α) r2).1, Nat.le_trans (Dt.sh (α := α) r2).2 hd⟩
theorem ep_own [Dt α] {xs : List α} {i k : Nat} {l : Addr} (hi : τ[i]? = some (some (dyA l))) (hk : O[k]? = some (l, cL xs)) (hd : Dt.dn α ≤ 60 := by decide) : EvP (tVar i) τ O (toD xs) O K (KO l (cL xs)) := fun σ G0 G H s w Q q => by
  obtain ⟨v, hv, hd'⟩ := s.get hi
  have hd' : v = .ref l := hd'
  subst hd'
  obtain ⟨_, o, ho, vs, rfl, hr, hl⟩ := w.get hk
  refine ⟨_, hv, q _ G H (Ex.refl _) w (fun G0 G3 H3 O3 e3 w3 ⟨k3, hk3⟩ => ?_) ?_⟩
  · obtain ⟨_, o, ho, vs, rfl, hr, _⟩ := w3.get hk3
    refine .lst (.inl (.inl ho)) ?_
    exact DpAll.ex w3.ex (dpAll hr)
  · obtain ⟨k1, k2⟩ := shAll hr
    exact ⟨by show PyData.canLay0 (.list _) = true; rw [PyData.canLay0]; exact k1, by show PyData.depth (.list _) ≤ 64; rw [PyData.depth]; omega⟩
theorem ev_eqD [Dt α] [DecidableEq α] [De α] {x y : α} {Kp Kq : Own → Prop} (ha : EvP ta τ O (toD x) O1 K Kp) (hb : EvP tb τ O1 (toD y) O2 K Kq) (hk : Kp O2) (hq : Kq O2) : Ev (tOp (rEqD K) ta tb) τ O (decide (x = y)) O2 := fun σ G0 G H s w Q q =>
  ha σ G0 G H s w _ fun v G2 H2 e2 w2 st sh => hb σ G0 G2 H2 (s.mono e2) w2 _ fun v3 G3 H3 e3 w3 st3 sh3 =>
    ⟨toD x, toD y, st G0 G3 H3 O2 e3 w3 hk, st3 G0 G3 H3 O2 (Ex.refl _) w3 hq, by unfold SeqAt.shaped; rw [sh.1, decide_eq_true sh.2]; rfl, by unfold SeqAt.shaped; rw [sh3.1, decide_eq_true sh3.2]; rfl, by rw [De.de]; exact q _ G3 H3 (e2.trans e3) w3 rfl⟩
theorem ev_neD [Dt α] [DecidableEq α] [De α] {x y : α} {Kp Kq : Own → Prop} (ha : EvP ta τ O (toD x) O1 K Kp) (hb : EvP tb τ O1 (toD y) O2 K Kq) (hk : Kp O2) (hq : Kq O2) : Ev (tOp (rNeD K) ta tb) τ O (!decide (x = y)) O2 := fun σ G0 G H s w Q q =>
  ha σ G0 G H s w _ fun v G2 H2 e2 w2 st sh => hb σ G0 G2 H2 (s.mono e2) w2 _ fun v3 G3 H3 e3 w3 st3 sh3 =>
    ⟨toD x, toD y, st G0 G3 H3 O2 e3 w3 hk, st3 G0 G3 H3 O2 (Ex.refl _) w3 hq, by unfold SeqAt.shaped; rw [sh.1, decide_eq_true sh.2]; rfl, by unfold SeqAt.shaped; rw [sh3.1, decide_eq_true sh3.2]; rfl, by rw [De.de]; exact q _ G3 H3 (e2.trans e3) w3 rfl⟩

/-! ### isinstance -/
class Ty (α : Type) [Rp α] where
  ty : String
  ok : ∀ {K : PySem.W.Frag} {G : Hp} {v : V} {x : α}, rp G v x → TyX K G v (.type ty)
theorem tyx_ex {K : PySem.W.Frag} {G H : Hp} {v : V} {t : Value} (e : Ex G H) (h : TyX K G v t) (hs : ∀ a, v = .ref a → (∃ xs, G a = some (.lst xs)) ∨ ∃ xs, G a = some (.tup xs)) : True := trivial
instance : Ty Int := ⟨"int", fun h => by cases h; exact .base (.int _)⟩
instance : Ty Bool := ⟨"bool", fun h => by cases h; exact .base (.bl _)⟩
instance : Ty Str := ⟨"str", fun h => by cases h; exact .base (.str _)⟩
instance : Ty Unit := ⟨"NoneType", fun h => by cases h; exact .base .non⟩
instance {α : Type} [Rp α] : Ty (List α) := ⟨"list", fun ⟨a, vs, h1, h2, h3, h4⟩ => by subst h1; exact .base (.lst h2)⟩
instance {α β : Type} [Rp α] [Rp β] : Ty (T2 α β) := ⟨"tuple", fun ⟨t, v1, v2, h, g, h1, h2⟩ => by subst h; exact .base (.tup g)⟩
instance {α β γ : Type} [Rp α] [Rp β] [Rp γ] : Ty (T3 α β γ) := ⟨"tuple", fun ⟨t, v1, v2, v3, h, g, h1, h2, h3⟩ => by subst h; exact .base (.tup g)⟩
theorem ev_isi [Ty α] {x : α} {n : String} {bb : Bool} (ha : Ev ta τ O x O1) (h : kitB (Ty.ty α) n = some bb) : Ev (tCB (rIsi K) (tCons ta (tCons (tC (.ty n)) tNil))) τ O bb O1 := fun σ G0 G H s w Q q =>
  ha σ G0 G H s w _ fun v G2 H2 e2 w2 r2 => ⟨v, .ty n, .type (Ty.ty α), .type n, bb, rfl, .ty n, Ty.ok (Rp.mono w2.ex r2), kit_ty h, q _ G2 H2 e2 w2 rfl⟩
end

/-! ### the law's end -/
def spLaw (K : PySem.W.Frag) (f : List Int → Option Bool) : Spec := fun ds O r O' => ∃ ns, ds = [dyS K ns] ∧ f ns = some true ∧ r = .fro (dy true) ∧ O' = O
theorem law_sp {K : PySem.W.Frag} {f : List Int → Option Bool} (hf : ∀ ns : List Int, ns.length ≤ 63 → f ns = some true) (H : Hp) (a : Addr) (ns : List Int) (hl : ns.length ≤ 63) (hS : SqL K H a (ns.map V.int)) : sp (spLaw K f) [.ref a] H (fun v _ => v = .bl true) fun _ _ _ => False :=
  ⟨H, [dyS K ns], [], .fro (dy true), [], ⟨⟨a, rfl, hS, hl⟩, trivial⟩, W.nil (Ex.refl _) (Ex.refl _), ⟨ns, rfl, hf ns hl, rfl, rfl⟩, fun v G H w r => r⟩
end DL
end
section
namespace DL
open PySem PySem.Spec PyProof.Rows L2
open Rp (rp)
section
variable {α β γ δ : Type} [Rp α] [Rp β] [Rp γ] [Rp δ] {K : PySem.W.Frag} {τ τ1 τ2 τ3 τ4 : Env} {O O1 O2 O3 O' : Own} {ta tb tc te tl : TE} {t u : TT} {tr : TA} {d d' : Dyn} {ds : List Dyn} {a b r : Int}
variable {G0 : Hp} {D : Ends} {tu tw : TS} {g : TG} {wi : TI} {R : VK} {c c' : Cell}
def BdF {σ α : Type} [Rp α] (G0 : Hp) (D : Ends) (tb : TS) (g : TG) (τI : σ → Env) (OI : σ → Own) (x : α) (s s' : σ) : Prop :=
  ∀ D' : Ends, D'.rt = D.rt → Nx G0 D'.nx (τI s') (OI s') → ∃ τ' ws, Tgt g x (τI s) τ' ws ∧ Nx G0 (tb D') τ' (OI s)
theorem nx_fold {σ : Type} {xs : List α} {s0 s1 : σ} {τI : σ → Env} {OI : σ → Own} {f : α → σ → Option σ} {Kp : Own → Prop} (hm : foldO xs s0 f = some s1) (hw : Wk wi τ O xs (OI s0) Kp) (hs : Sub (τI s0) τ) (hk : ∀ s, Kp (OI s))
    (hb : ∀ G1, Ex G0 G1 → ∀ x s s', x ∈ xs → f x s = some s' → BdF G1 D tu g τI OI x s s') (hn : Nx G0 D.nx (τI s1) (OI s1)) : Nx G0 (tFor wi g tu D) τ O :=
  nx_for (forO_fold hm) hw hs hk (fun G1 e1 x s fl' hx hf D' h1 h2 h3 => by
    obtain ⟨s', h4, rfl⟩ := mE hf
    exact hb G1 e1 x s s' hx h4 D' h1 (h2 s' rfl)) (fun s hs => by cases hs; exact hn)
def BdL {σ : Type} (G0 : Hp) (D : Ends) (tb : TS) (τI : σ → Env) (OI : σ → Own) (s s' : σ) : Prop :=
  ∀ D' : Ends, D'.rt = D.rt → Nx G0 D'.nx (τI s') (OI s') → Nx G0 (tb D') (τI s) (OI s)
theorem nx_loop {σ : Type} {s0 s1 : σ} {n : Nat} {τI : σ → Env} {OI : σ → Own} {cc : σ → Option Bool} {f : σ → Option σ} (hm : loopO n s0 cc f = some s1) (hO : O = OI s0) (hs : Sub (τI s0) τ)
    (hc : ∀ s b, cc s = some b → EvT t (τI s) (OI s) b (OI s)) (hb : ∀ s s', cc s = some true → f s = some s' → BdL G0 D tu τI OI s s') (hn : Nx G0 D.nx (τI s1) (OI s1)) : Nx G0 (tWhile t tu D) τ O :=
  nx_while (whileO_loop hm) hO hs hc (fun s fl' h0 hf D' h1 h2 h3 => by
    obtain ⟨s', h4, rfl⟩ := mE hf
    exact hb s s' h0 h4 D' h1 (h2 s' rfl)) (fun s hs => by cases hs; exact hn)
theorem nx_join {τJ : Env} {OJ : Own} (hk : Nx G0 (tw D) τJ OJ) (h : Nx G0 (tw D) τJ OJ → Nx G0 (tu { D with nx := tw D }) τ O) : Nx G0 (tSeq tu tw D) τ O := h hk
theorem nx_par3 {i j l : Nat} {d1 d2 d3 : Dyn} (h : EvA tr τ O [d1, d2, d3] O') (k : Nx G0 D.nx (((τ.set i (some d1)).set j (some d2)).set l (some d3)) O') : Nx G0 (tPar3 i j l tr D) τ O := fun σ G H s w =>
  h σ G0 G H s w _ fun vs G2 H2 e2 w2 r2 => match vs, r2 with
    | [v1, v2, v3], ⟨r1, r3, r4, _⟩ => ⟨v1, v2, v3, rfl, k _ G2 H2 ((((s.mono e2).set r1 i).set r3 j).set r4 l) w2⟩
/-! ### own arguments -/
theorem perm_back {p : Addr × Cell} : ∀ {O : Own} {k : Nat}, k < O.length → (p :: O.eraseIdx k).Perm (O.set k p)
  | [], _, h => by simp at h
  | a :: O, 0, h => List.Perm.refl _
  | a :: O, k + 1, h => (List.Perm.swap a p _).trans ((perm_back (O := O) (k := k) (by simpa using h)).cons a)
theorem ev_callK {S : Spec} {E : XK} {d : Dyn} {B : Addr} (k : Nat) (h : EvA tr τ O ds O1) (hk : O1[k]? = some (B, c)) (hs : S ds ((B, c) :: O1.eraseIdx k) (.fro d) ((B, c') :: O1.eraseIdx k)) : EvD (tCall (sp S) [] E tr) τ O d (O1.set k (B, c')) := fun σ G0 G H s w Q q =>
  h σ G0 G H s w _ fun vs G2 H2 e2 w2 r2 => by
    rw [List.append_nil]
    exact ⟨G2, ds, _, .fro d, _, r2, (w2.perm (perm_front hk).symm).start, hs, fun v G3 H3 w3 r3 => q v G3 H3 (e2.trans w3.base) ((w2.back w3).perm (perm_back (List.getElem?_eq_some_iff.mp hk).1)) r3⟩
theorem ec_callK {S : Spec} {E : XK} {cr : Cell} {B : Addr} (k : Nat) (h : EvA tr τ O ds O1) (hk : O1[k]? = some (B, c)) (hs : S ds ((B, c) :: O1.eraseIdx k) (.new cr) ((B, c') :: O1.eraseIdx k)) : EvC (tCall (sp S) [] E tr) τ O cr (O1.set k (B, c')) := fun σ G0 G H s w Q q =>
  h σ G0 G H s w _ fun vs G2 H2 e2 w2 r2 => by
    rw [List.append_nil]
    exact ⟨G2, ds, _, .new cr, _, r2, (w2.perm (perm_front hk).symm).start, hs, fun l G3 H3 w3 => q l G3 H3 (e2.trans w3.base) ((w2.back w3).perm ((perm_back (List.getElem?_eq_some_iff.mp hk).1).cons _))⟩
end
/-- a def that stands: its address, its promise -/
def Def (P : Program) (w : World) (K : PySem.W.Frag) (mg : Str → Option Value) (base : Heap) (x : Str) (j : Nat) (ps : List Str) (S : Spec) : Prop :=
  ∃ f fd, FnOk P w K mg base CX0 j f fd ps (sp S) ∧ mg x = some (.ref f) ∧ PySem.W.keepIn K (.ref f) = true ∧ Binds K fd ps []
/-- the bag that a law draws from -/
abbrev cBag (b : Bag) : Cell := cH [dy b.cells, dy b.i, dy b.d, dy b.s, dy b.c]
section
variable {α : Type} [Rp α] {τ : Env} {O : Own} {G0 : Hp}
theorem nx_freeze {N : L2.St → Hp → Prop} {i k : Nat} {l : Addr} {xs : List α} (hi : τ[i]? = some (some (dyA l))) (hk : O[k]? = some (l, cL xs)) (h : Nx G0 N (τ.set i (some (dy xs))) (O.eraseIdx k)) : Nx G0 N τ O := fun σ G H s w => by
  obtain ⟨G2, e, w2, r⟩ := (w.front hk).freezeL
  obtain ⟨v, hv, hd⟩ := s.get hi
  have hd : v = .ref l := hd
  subst hd
  have s2 := (s.mono e).set (d := dy xs) r i
  have e2 : σ.set i (some (.ref l)) = σ := by
    apply List.ext_getElem?
    intro j
    by_cases ej : i = j
    · subst ej
      rw [List.getElem?_set_self (List.getElem?_eq_some_iff.mp hv).1, hv]
    · rw [List.getElem?_set_ne ej]
  rw [e2] at s2
  exact h σ G2 H s2 w2
end
section
variable {α : Type} [Rp α] {K : PySem.W.Frag} {τ : Env} {O O1 : Own} {te : TE} {G0 : Hp} {D : Ends}
theorem ev_bag0 {i k : Nat} {l : Addr} {b : Bag} (hi : τ[i]? = some (some (dyA l))) (hk : O[k]? = some (l, cBag b)) : Ev (tOp (rIxL K) (tVar i) (tC (.int 0))) τ O b.cells O := ev_ixH 0 hi hk rfl
theorem nx_bag0 {i k : Nat} {l : Addr} {b b' : Bag} {x : List Int} (hb : { b with cells := x } = b') (h : Ev te τ O x O1) (hi : τ[i]? = some (some (dyA l))) (hk : O1[k]? = some (l, cBag b)) (q : Nx G0 D.nx τ (O1.set k (l, cBag b'))) : Nx G0 (tAsg te (gSub (tVar i) (tC (.int 0)) rSetL) D) τ O := by
  subst hb
  exact nx_setH 0 h hi hk (by show 0 < 5; decide) q
theorem ev_bag1 {i k : Nat} {l : Addr} {b : Bag} (hi : τ[i]? = some (some (dyA l))) (hk : O[k]? = some (l, cBag b)) : Ev (tOp (rIxL K) (tVar i) (tC (.int 1))) τ O b.i O := ev_ixH 1 hi hk rfl
theorem nx_bag1 {i k : Nat} {l : Addr} {b b' : Bag} {x : Int} (hb : { b with i := x } = b') (h : Ev te τ O x O1) (hi : τ[i]? = some (some (dyA l))) (hk : O1[k]? = some (l, cBag b)) (q : Nx G0 D.nx τ (O1.set k (l, cBag b'))) : Nx G0 (tAsg te (gSub (tVar i) (tC (.int 1)) rSetL) D) τ O := by
  subst hb
  exact nx_setH 1 h hi hk (by show 1 < 5; decide) q
theorem ev_bag2 {i k : Nat} {l : Addr} {b : Bag} (hi : τ[i]? = some (some (dyA l))) (hk : O[k]? = some (l, cBag b)) : Ev (tOp (rIxL K) (tVar i) (tC (.int 2))) τ O b.d O := ev_ixH 2 hi hk rfl
theorem nx_bag2 {i k : Nat} {l : Addr} {b b' : Bag} {x : Int} (hb : { b with d := x } = b') (h : Ev te τ O x O1) (hi : τ[i]? = some (some (dyA l))) (hk : O1[k]? = some (l, cBag b)) (q : Nx G0 D.nx τ (O1.set k (l, cBag b'))) : Nx G0 (tAsg te (gSub (tVar i) (tC (.int 2)) rSetL) D) τ O := by
  subst hb
  exact nx_setH 2 h hi hk (by show 2 < 5; decide) q
theorem ev_bag3 {i k : Nat} {l : Addr} {b : Bag} (hi : τ[i]? = some (some (dyA l))) (hk : O[k]? = some (l, cBag b)) : Ev (tOp (rIxL K) (tVar i) (tC (.int 3))) τ O b.s O := ev_ixH 3 hi hk rfl
theorem nx_bag3 {i k : Nat} {l : Addr} {b b' : Bag} {x : Int} (hb : { b with s := x } = b') (h : Ev te τ O x O1) (hi : τ[i]? = some (some (dyA l))) (hk : O1[k]? = some (l, cBag b)) (q : Nx G0 D.nx τ (O1.set k (l, cBag b'))) : Nx G0 (tAsg te (gSub (tVar i) (tC (.int 3)) rSetL) D) τ O := by
  subst hb
  exact nx_setH 3 h hi hk (by show 3 < 5; decide) q
theorem ev_bag4 {i k : Nat} {l : Addr} {b : Bag} (hi : τ[i]? = some (some (dyA l))) (hk : O[k]? = some (l, cBag b)) : Ev (tOp (rIxL K) (tVar i) (tC (.int 4))) τ O b.c O := ev_ixH 4 hi hk rfl
theorem nx_bag4 {i k : Nat} {l : Addr} {b b' : Bag} {x : Int} (hb : { b with c := x } = b') (h : Ev te τ O x O1) (hi : τ[i]? = some (some (dyA l))) (hk : O1[k]? = some (l, cBag b)) (q : Nx G0 D.nx τ (O1.set k (l, cBag b'))) : Nx G0 (tAsg te (gSub (tVar i) (tC (.int 4)) rSetL) D) τ O := by
  subst hb
  exact nx_setH 4 h hi hk (by show 4 < 5; decide) q
end
end DL
end
section
namespace DL
open PySem PySem.Spec PyProof.Rows L2
open Rp (rp)
/-! ### set(xs), sorted(set(xs)) of a list of ints -/
abbrev setO0 (w : World) : Obj := { cls := .type "set", dict := none, data := .set #[] 0 (.fresh 0 0 (!w.params.followText "set-order")) }
section
variable {P : Program} {w : World} {A : Around} {E : Value → Shared → Prop} {s : Shared}
abbrev SetMade (w : World) (s : Shared) (ns : List Int) (tk : Nat) (h2 : Heap) (c : Nat) : Prop := SetR w h2 s.heap.objs.size (fun j => decide (j ∈ ns)) c ∧ c ≤ ns.length ∧ (∀ b o, s.heap.get? b = some o → h2.get? b = some o)
set_option maxRecDepth 100000 in
set_option maxHeartbeats 3200000 in
theorem set_of_list {l : Addr} {its : Array Value} (ns : List Int) {Q : Value → Shared → Prop} (hnd : A.handled = none)
    (hlst : s.heap.IsList l its) (hints : IntsAre its.toList ns) (hroom : ns.length + 1 < scanBound)
    (fin : ∀ (h2 : Heap) (tk c : Nat), SetMade w s ns tk h2 c → Q (.ref s.heap.objs.size) { s with heap := h2, toks := tk }) :
    wpAny (model P w) A (call (.type "set") [.ref l]) Q E s := by
  have size_its : its.size = ns.length := (Array.length_toList ▸ IntsAre.length hints : its.size = ns.length)
  obtain ⟨cc, tl0, mro0⟩ := F.called_set.mro
  have made0 := F.called_set.made
  have sub0 := F.called_set.sub
  apply wpAny_call
  apply codeAny_of_tree
  show wpAny _ _ (callAny (.type "set") _) _ _ _
  apply wpAny_pure
  refine ⟨Code.quiet_builtin _ (by decide +kernel), codeAny_builtin F.entry_type_call ?_⟩
  rw [Around.under_plain (weight_type_call_type "set" [.ref l] []) rfl]
  have not0 := F.called_set.notType
  have can0 := F.called_set.canCreate
  have chk0 := F.typeCall_set_1 (.ref l)
  repeat (any_goals (first | assumption | wp_step))
  refine codeAny_mono (code_set_led1 (.ref l) (E := E)
    (Q₁ := fun ob t1 => ob = .ref s.heap.objs.size ∧ t1 = { s with heap := s.heap.push (setO0 w) }) ⟨rfl, rfl⟩) ?_
  intro rr t1 hrr
  match rr, hrr with
  | .error _, hrr => exact hrr
  | .ok (.ret ob), ⟨eob, et1⟩ =>
    subst eob
    subst et1
    have at0 : (s.heap.push (setO0 w)).get? s.heap.objs.size = some (setO0 w) := Heap.get?_push_size _ rfl
    have ty0 : Shared.TypeIs { s with heap := s.heap.push (setO0 w) } (.ref s.heap.objs.size) "set" := ⟨_, at0, rfl⟩
    have look0 := F.called_set.init.lookup
    have bind0 := F.called_set.init.bind (.ref s.heap.objs.size)
    repeat (any_goals (first | assumption | wp_step))
    refine codeAny_mono (codeAny_call_builtin
      (R := wants (fun rv t2 => rv = .none ∧ ∃ h2 tk c, t2 = { s with heap := h2, toks := tk } ∧ SetMade w s ns tk h2 c) E)
      F.called_set.init.plain F.entry_set_init (check_set_init_1 ty0 ?_)) ?_
    · obtain ⟨ol, hol, hcl, nl, hdl⟩ := hlst
      obtain ⟨oc, od, oda, osl⟩ := ol
      simp only at hcl hdl
      subst hcl
      subst hdl
      have lat : (s.heap.push (setO0 w)).get? l = some { cls := .type "list", dict := od, data := .seq its nl, slots := osl } :=
        Heap.get?_push_of_some _ hol
      have sb1 := F.sub_list_set
      have sb2 := F.sub_list_frozenset
      have nd0 : (Value.type "list" == Value.type "dict") = false := by decide
      have lis : (s.heap.push (setO0 w)).IsList l its := ⟨_, lat, rfl, nl, rfl⟩
      unfold Builtin.«set.__init__»
      unfold noKeywords Builtin.Frozenset.updateFrom
      generalize gPI : pyIter = PI
      wp_walk
      subst gPI
      refine wpAny_pyIter_list lis ?_
      apply wpAny_bind
      apply wpAny_runValue
      have llt : l < s.heap.objs.size := Heap.lt_size hol
      have hnd3 : A.in1.in1.in1.handled = none := by simp [hnd]
      have sz1 : (s.heap.push (setO0 w)).objs.size = s.heap.objs.size + 1 := Heap.size_push ..
      have lne : l ≠ (s.heap.push (setO0 w)).objs.size := by
        rw [sz1]
        exact Nat.ne_of_lt (Nat.lt_succ_of_lt llt)
      have nin : s.heap.objs.size ∉ [(s.heap.push (setO0 w)).objs.size, l] := by
        rw [sz1]
        intro z
        rcases List.mem_cons.mp z with z | z
        · exact absurd z (Nat.ne_of_lt (Nat.lt_succ_self _))
        · exact absurd (List.mem_singleton.mp z) (Nat.ne_of_gt llt)
      have vals : ∀ (i : Nat) (v : Value), its[i]? = some v → ∃ k t, ns[i]? = some k ∧ v = .int k t := by
        intro i v hv
        have hi : i < ns.length := size_its ▸ (Array.getElem?_eq_some_iff.mp hv).1
        obtain ⟨t, e⟩ := PyProof.Rows.IntsAre.int_at hints i v (Array.getElem?_toList.trans hv)
        refine ⟨ns[i], t, List.getElem?_eq_getElem hi, e.trans ?_⟩
        rw [List.getD_eq_getElem?_getD, List.getElem?_eq_getElem hi]
        rfl
      refine set_update_ints ((Walks.list hnd3 _ l lne its).toS) s.heap.objs.size nin ns size_its hroom vals
        (its.size - 0) 0 _ (by omega) (Nat.zero_le _) ⟨⟨_, Heap.get?_push_size _ rfl, rfl, rfl⟩, (lis.push _)⟩ ?begin0 ?end0
      case begin0 =>
        exact ⟨0, Nat.le_refl 0, setR_new_at (Heap.get?_push_of_some _ at0)⟩
      case end0 =>
        intro t2 c2 mv hc2 hS2
        obtain ⟨h2, g2, d2, k2, o2⟩ := t2
        cases (mv.gens : g2 = s.gens)
        cases (mv.drawn : d2 = s.drawn)
        cases (mv.os : o2 = s.os)
        show wpAny _ _ _ _ _ _
        apply wpAny_pure
        show wpAny _ _ (ret Value.none) _ _ _
        rw [size_its] at hc2
        refine wpAny_pure ⟨rfl, h2, k2, c2, rfl, hS2, hc2, fun b o e => ?_⟩
        have b0 : b < s.heap.objs.size := Heap.lt_size e
        refine mv.heap b o (fun z => ?_) (Heap.get?_push_of_some _ (Heap.get?_push_of_some _ e))
        rcases List.mem_cons.mp z with z | z
        · exact absurd z (Nat.ne_of_lt b0)
        · have z2 := List.mem_singleton.mp z
          rw [sz1] at z2
          exact absurd z2 (Nat.ne_of_lt (Nat.lt_succ_of_lt b0))
    · intro r2 t2 hr2
      match r2, hr2 with
      | .error _, hr2 => exact hr2
      | .ok (.ret rv), ⟨e1, h2, tk, c, e2, hm⟩ =>
        subst e1
        subst e2
        repeat (any_goals (first | assumption | wp_step))
        exact fin h2 tk c hm
/-- sorted of a set of ints, of any size -/
theorem sorted_of_set {a : Addr} {S : Int → Bool} {n : Nat} {Q : Value → Shared → Prop} (R : SetR w s.heap a S n) (hnd : A.handled = none)
    (fin : ∀ (t : Shared) (p : Addr) (out : Array Value) (c : Nat) (ns : List Int), (∀ b o, s.heap.get? b = some o → t.heap.get? b = some o) → t.gens = s.gens → t.os = s.os → s.heap.objs.size ≤ p →
      t.heap.get? p = some (seqObj "list" out c) → IntsAre out.toList ns → ns.Pairwise (· < ·) → (∀ k, k ∈ ns ↔ S k = true) → ns.length = n → Q (.ref p) t) : wpAny (model P w) A (call (.builtin "sorted") [.ref a]) Q E s := by
  obtain ⟨ob, es, ep, tb, hob, hex, hdt, good, nod, mem, few, fit, cnt, ris, led⟩ := R
  have e0 : n < scanBound := cnt ▸ few
  have e1 : scanBound = 4096 := rfl
  apply Calls.call_function_entry kind_sorted plain_sorted entry_sorted (args_sorted1 _)
  unfold Builtin.«sorted»
  apply wpAny_bind (m := checkCount "sorted" 1 1 _)
  apply wpAny_pure
  refine wpAny_bind (collect_set (A := A.in1) hnd ⟨ob, hob, hex.1, hdt⟩ fit few ris led ?_)
  intro t1 vs keep1 size1 gens1 os1 perm1
  have len1 : vs.length = n := perm1.length_eq.trans ((List.length_map _).trans (Array.length_toList.trans cnt))
  have ints1 : IntsAre vs (vs.map Builtin.Re.reRawOf) := ints_of vs fun v hv => by
    obtain ⟨en, hen, q⟩ := List.mem_map.mp (perm1.mem_iff.mp hv)
    obtain ⟨k, tk, g1, _⟩ := good en hen
    exact ⟨k, tk, q ▸ g1⟩
  have permk : (vs.map Builtin.Re.reRawOf).Perm (es.toList.map keyOf) := by
    have z := perm1.map Builtin.Re.reRawOf
    rw [List.map_map] at z
    exact z
  apply wpAny_bind
  refine wpAny_newList ?_ (by rw [len1, sizeLine_eq]; omega)
  have lat : (t1.heap.push (seqObj "list" vs.toArray 0)).get? t1.heap.objs.size = some (seqObj "list" vs.toArray 0) := Heap.get?_push_size _ rfl
  apply wpAny_bind
  apply wpAny_holding
  refine wpAny_call_entry slot_list_sort ⟨_, lat, rfl⟩ entry_list_sort
    (list_sort_treeAny lat ints1 (by rw [len1, sizeLine_eq]; omega) fun out ns2 i2 p2 w2 => ⟨_, rfl, ?_⟩) (args_list_sort _)
  obtain ⟨c, at2⟩ := sortedHeap_at (vs := vs) (out := out) lat
  have permn : ns2.Perm (es.toList.map keyOf) := p2.trans permk
  apply wpAny_pure
  refine ⟨_, rfl, fin _ t1.heap.objs.size out c ns2 ?_ gens1 os1 size1 at2 i2 (lt_of_le_nodup ns2 w2 (permn.nodup_iff.mpr nod)) ?_ ?_⟩
  · intro b u e
    have z := keep1 b u e
    have zl := Heap.lt_size z
    show (sortedHeap (t1.heap.push (seqObj "list" vs.toArray 0)) t1.heap.objs.size vs out).get? b = some u
    rw [sortedHeap_old (Nat.ne_of_lt zl) (size_push' .. ▸ Nat.lt_succ_of_lt zl)]
    exact Heap.get?_push_of_some _ z
  · intro k
    rw [permn.mem_iff, ← mem k]
  · exact permn.length_eq.trans ((List.length_map _).trans (Array.length_toList.trans cnt))
end
/-! ### over the layer -/
section
variable {X : Cx}
def rSetI (K : PySem.W.Frag) (w : World) : List V → Hp → VK → Prop := fun vs H Q => ∃ (a : Addr) (ns : List Int), vs = [V.ref a] ∧ SqL K H a (ns.map V.int) ∧ ns.length ≤ 4000 ∧
  ∀ p c, c ≤ ns.length → H p = none → Q (.ref p) (upd H p (SetO w p (fun j => decide (j ∈ ns)) c))
theorem cr_setI (hc : X.calm = true) : CallR X (.type "set") (rSetI X.K X.w) := by
  intro pins s σ H vs us Q I r h
  obtain ⟨a, ns, rfl, hs, hl, q⟩ := h
  obtain ⟨its, rv, hlst, hz⟩ := I.list hs
  rw [Vals.ref1 r]
  refine set_of_list ns (I.ok.hd hc) hlst.isList rv.ints (by show ns.length + 1 < 4096; omega) fun h2 tk c hm => ?_
  exact ⟨.ref _, upd H s.heap.objs.size (SetO X.w s.heap.objs.size (fun j => decide (j ∈ ns)) c), I.laid (t' := tk) (fun b u e => hm.2.2 b u e) (Nat.le_refl _) (setO_new hm.1), rfl, q _ c hm.2.1 (I.hok.fresh (Nat.le_refl _))⟩
def rSortedSetI (w : World) : List V → Hp → VK → Prop := fun vs H Q => ∃ (a : Addr) (S : Int → Bool) (n : Nat), vs = [V.ref a] ∧ H a = some (SetO w a S n) ∧ n ≤ 4000 ∧
  ∀ (ns : List Int) (p : Addr), ns.Pairwise (· < ·) → (∀ k : Int, k ∈ ns ↔ S k = true) → ns.length = n → H p = none → Q (.ref p) (upd H p (.lst (ns.map V.int)))
theorem cr_sortedSetI (hc : X.calm = true) : CallR X (.builtin "sorted") (rSortedSetI X.w) := by
  intro pins s σ H vs us Q I r h
  obtain ⟨a, S, n, rfl, ha, hn, q⟩ := h
  rw [Vals.ref1 r]
  refine sorted_of_set (setO_get I ha) (I.ok.hd hc) fun t p out c ns keep gens os szp at2 its2 pw mem len => ?_
  have few : (ns.map V.int).length ≤ sizeLine := by
    rw [List.length_map, len, sizeLine_eq]
    omega
  have free : H p = none := I.hok.fresh szp
  have J : Inv X pins σ (upd H p (.lst (ns.map V.int))) { s with heap := t.heap, gens := t.gens, drawn := t.drawn, toks := t.toks } :=
    I.call (ch := []) (Un.laid keep szp free) (I.hok.laid keep szp ⟨few, out.toList, c, vals_of_ints its2, at2⟩) (by rw [gens]; exact I.bare) (fun _ z => nomatch z)
  have e : t = { s with heap := t.heap, gens := t.gens, drawn := t.drawn, toks := t.toks } := by
    cases t
    cases s
    cases os
    rfl
  rw [e]
  exact ⟨.ref p, _, J, rfl, q ns p pw mem len free⟩
end
theorem en_sset {K : PySem.W.Frag} {w : World} {τ : Env} {O O1 : Own} {ta : TE} {xs ys : List Int} {Kp : Own → Prop} (ha : EvLs ta τ O xs O1 Kp) (hk : Kp O1) (h : ssetO xs = some ys) :
    EvN (tCB (rSortedSetI w) (tCons (tCB (rSetI K w) (tCons ta tNil)) tNil)) τ O ys O1 := fun σ G0 G H s w0 Q q =>
  ha σ G0 G H s w0 _ fun p G2 H2 e2 w2 st hl => by
    obtain ⟨vs, k1, k2⟩ := st.now w2 hk
    obtain ⟨h4, hp, hm⟩ := ssetO_ok h
    refine ⟨p, xs, rfl, .inl (.inl (by rw [k1, k2.ints])), h4, fun p2 c hc hp2 => ?_⟩
    refine ⟨p2, _, c, rfl, upd_same, by omega, fun ns l pw mem len hl2 => ?_⟩
    have e : ns = ys := sorted_unique pw hp fun k => by rw [mem k, decide_eq_true_eq, hm k]
    subst e
    exact q l G2 _ e2 ((w2.junk hp2).alloc (c := cL1 ns) hl2 ⟨_, rfl, RpL.ofInts, by rw [len]; omega⟩)
end DL
end
section
namespace DL
open PySem PySem.Spec PyProof.Rows L2
open Rp (rp)
section
variable {α β γ δ : Type} [Rp α] [Rp β] [Rp γ] [Rp δ] {K : PySem.W.Frag} {w : World} {τ τ1 τ2 τ3 τ4 : Env} {O O1 O2 O3 O' : Own} {ta tb tc te tl : TE} {t u : TT} {tr : TA} {d d' : Dyn} {ds : List Dyn} {a b r : Int}
variable {G0 : Hp} {D : Ends} {tu tw : TS} {g : TG} {wi : TI} {R : VK} {c c' : Cell} {xs ys : List Int} {Kp : Own → Prop}
theorem inV_int : ∀ (ns : List Int) (n : Int), inV (.int n) (ns.map V.int) = decide (n ∈ ns)
  | [], n => rfl
  | m :: ns, n => by
    have ih := inV_int ns n
    unfold inV at ih ⊢
    rw [List.map_cons, List.any_cons, ih]
    show (m == n || decide (n ∈ ns)) = decide (n ∈ m :: ns)
    by_cases e : m = n
    · subst e
      simp
    · have e2 : ¬ n = m := fun z => e z.symm
      simp [e, e2]
theorem flat_int : ∀ ns : List Int, (ns.map V.int).all flatV = true
  | [] => rfl
  | n :: ns => by
    rw [List.map_cons, List.all_cons, flat_int ns]
    rfl
theorem ev_in (ha : Ev ta τ O a O1) (hb : EvLs tb τ O1 xs O2 Kp) (hk : Kp O2) : Ev (tOp (rIn K false) ta tb) τ O (decide (a ∈ xs)) O2 := fun σ G0 G H s w Q q =>
  ha σ G0 G H s w _ fun v G2 H2 e2 w2 r2 => hb σ G0 G2 H2 (s.mono e2) w2 _ fun p G3 H3 e3 w3 st hl => by
    obtain ⟨vs, h1, h2⟩ := st.now w3 hk
    have e := h2.ints
    subst e
    cases r2
    refine ⟨p, _, rfl, .inl (.inl (.inl h1)), rfl, flat_int xs, ?_⟩
    rw [inV_int]
    exact q _ G3 H3 (e2.trans e3) w3 rfl
theorem ev_notIn (ha : Ev ta τ O a O1) (hb : EvLs tb τ O1 xs O2 Kp) (hk : Kp O2) : Ev (tOp (rIn K true) ta tb) τ O (!decide (a ∈ xs)) O2 := fun σ G0 G H s w Q q =>
  ha σ G0 G H s w _ fun v G2 H2 e2 w2 r2 => hb σ G0 G2 H2 (s.mono e2) w2 _ fun p G3 H3 e3 w3 st hl => by
    obtain ⟨vs, h1, h2⟩ := st.now w3 hk
    have e := h2.ints
    subst e
    cases r2
    refine ⟨p, _, rfl, .inl (.inl (.inl h1)), rfl, flat_int xs, ?_⟩
    rw [inV_int]
    exact q _ G3 H3 (e2.trans e3) w3 rfl
theorem rgV_eq (a b : Int) : rgV a b = (rng a b).map V.int := by
  unfold rgV rng
  rw [List.map_map]
  rfl
theorem en_lrng1 (ha : Ev ta τ O b O1) (h : rngO 0 b = some xs) : EvN (tLstRg (tRg1 ta)) τ O xs O1 := fun σ G0 G H s w Q q =>
  ha σ G0 G H s w _ fun v G2 H2 e2 w2 r2 => by
    obtain ⟨rfl, h1, h2, h3, h4, h5⟩ := rngO_ok h
    refine ⟨b, r2, ⟨by omega, by omega, by omega, by omega, ?_⟩, fun p hp => q p G2 _ e2 (w2.alloc (c := cL1 (rng 0 b)) hp ⟨_, rfl, by rw [rgV_eq]; exact RpL.ofInts, by rw [rng_length]; omega⟩)⟩
    have e : (2 : Nat) ^ 24 = 16777216 := by decide
    omega
theorem en_lrng2 (ha : Ev ta τ O a O1) (hb : Ev tb τ O1 b O2) (h : rngO a b = some xs) : EvN (tLstRg (tRg2 ta tb)) τ O xs O2 := fun σ G0 G H s w Q q =>
  ha σ G0 G H s w _ fun v1 G1 H1 e1 w1 r1 => hb σ G0 G1 H1 (s.mono e1) w1 _ fun v G2 H2 e2 w2 r2 => by
    obtain ⟨rfl, h1, h2, h3, h4, h5⟩ := rngO_ok h
    refine ⟨a, b, r1, r2, ⟨by omega, by omega, by omega, by omega, ?_⟩, fun p hp => q p G2 _ (e1.trans e2) (w2.alloc (c := cL1 (rng a b)) hp ⟨_, rfl, by rw [rgV_eq]; exact RpL.ofInts, by rw [rng_length]; omega⟩)⟩
    have e : (2 : Nat) ^ 24 = 16777216 := by decide
    omega
theorem RpL.reverse {G : Hp} : ∀ {vs : List V} {xs : List α}, RpL G vs xs → RpL G vs.reverse xs.reverse
  | [], [], _ => trivial
  | v :: vs, x :: xs, ⟨h, t⟩ => by
    rw [List.reverse_cons, List.reverse_cons]
    exact (RpL.reverse t).append ⟨h, trivial⟩
  | [], _ :: _, h => h.elim
  | _ :: _, [], h => h.elim
theorem en_rev {zs : List α} (ha : EvLs ta τ O zs O1 Kp) (hk : Kp O1) : EvN (tRevL K ta) τ O zs.reverse O1 := fun σ G0 G H s w Q q =>
  ha σ G0 G H s w _ fun p G2 H2 e2 w2 st hl => by
    obtain ⟨vs, h1, h2⟩ := st.now w2 hk
    exact ⟨p, vs, rfl, .inl (.inl h1), fun l hl' => q l G2 _ e2 (w2.alloc (c := cL1 zs.reverse) hl' ⟨_, rfl, h2.reverse, by rw [List.length_reverse]; exact hl⟩)⟩
theorem en_sorted (ha : EvLs ta τ O xs O1 Kp) (hk : Kp O1) : EvN (tCB (rSortedI K) (tCons ta tNil)) τ O (isrt xs) O1 := fun σ G0 G H s w Q q =>
  ha σ G0 G H s w _ fun p G2 H2 e2 w2 st hl => by
    obtain ⟨vs, h1, h2⟩ := st.now w2 hk
    refine ⟨p, xs, rfl, .inl (.inl (by rw [h1, h2.ints])), fun ns l hp hw hn => ?_⟩
    have e : ns = isrt xs := isrt_unique hp hw
    subst e
    exact q l G2 _ e2 (w2.alloc (c := cL1 (isrt xs)) hn ⟨_, rfl, RpL.ofInts, by rw [hp.length_eq]; exact hl⟩)
theorem RpL.rep {G : Hp} {vs : List V} {xs : List α} (h : RpL G vs xs) : ∀ n : Nat, RpL G (List.replicate n vs).flatten (List.replicate n xs).flatten
  | 0 => trivial
  | n + 1 => by
    rw [List.replicate_succ, List.replicate_succ, List.flatten_cons, List.flatten_cons]
    exact h.append (RpL.rep h n)
theorem RpL.some {G : Hp} : ∀ {vs : List V} {xs : List α}, RpL G vs xs → RpL G vs (xs.map Option.some)
  | [], [], _ => trivial
  | _ :: _, _ :: _, ⟨h, t⟩ => ⟨h, RpL.some t⟩
  | [], _ :: _, h => h.elim
  | _ :: _, [], h => h.elim
theorem ev_mapS {zs : List α} (h : Ev ta τ O zs O1) : Ev ta τ O (zs.map Option.some) O1 := fun σ G0 G H s w Q q => h σ G0 G H s w Q fun v G2 H2 e2 w2 ⟨p, vs, h1, h2, h3, h4⟩ => q v G2 H2 e2 w2 ⟨p, vs, h1, h2, h3.some, by rw [List.length_map]; exact h4⟩
theorem ec_mapS {zs : List α} (h : EvN ta τ O zs O1) : EvN ta τ O (zs.map Option.some) O1 := fun σ G0 G H s w Q q => h σ G0 G H s w Q fun l G2 H2 e2 w2 => q l G2 H2 e2 (w2.conv fun h ⟨o, e, vs, ho, hr, hl⟩ => ⟨o, e, vs, ho, hr.some, by rw [List.length_map]; exact hl⟩)
theorem en_rep {zs us : List α} (ha : EvLs ta τ O zs O1 Kp) (hb : Ev tb τ O1 a O2) (hk : Kp O2) (h : repO zs a = some us) : EvN (tOp rRep ta tb) τ O us O2 := fun σ G0 G H s w Q q =>
  ha σ G0 G H s w _ fun p G2 H2 e2 w2 st hl => hb σ G0 G2 H2 (s.mono e2) w2 _ fun v G3 H3 e3 w3 r3 => by
    obtain ⟨vs, h1, h2⟩ := (st.mono e3).now w3 hk
    unfold repO at h
    split at h
    next hc =>
      cases h
      obtain ⟨c1, c2, c3⟩ := hc
      have c4 : zs.length * a.toNat ≤ 1000000 := c3
      refine ⟨p, a, vs, rfl, r3, h1, by omega, by omega, sz_small (by rw [h2.length]; exact c4), fun l hl' => q l G3 _ (e2.trans e3) (w3.alloc (c := cL1 (List.replicate a.toNat zs).flatten) hl' ⟨_, rfl, h2.rep _, ?_⟩)⟩
      rw [List.length_flatten, List.map_replicate, List.sum_replicate_nat, Nat.mul_comm]
      exact c4
    next => cases h
end
end DL
end
section
namespace DL
open PySem PySem.Spec PyProof.Rows L2
section
variable {X : Cx} {e : Expr} {te : TE} {tg : TG}
/-! the kit's rules with the program's part given: so they can be used within a comprehension -/
theorem kx_list (K : PySem.W.Frag) (h : X.K = K) : IxR X (rIxL K) := h ▸ ix_list
theorem kx_tup (K : PySem.W.Frag) (h : X.K = K) : IxR X (rIxT K) := h ▸ ix_tup
theorem kx_seq (K : PySem.W.Frag) (h : X.K = K) : IxR X (rIx K) := h ▸ ix_seq
theorem kc_isiT (K : PySem.W.Frag) (h : X.K = K) : CallR X (.builtin "isinstance") (rIsiT K) := h ▸ call_isiT
theorem kl_list (K : PySem.W.Frag) (h : X.K = K) : SlR X (rSlL K) := h ▸ sl_list
theorem ko_in (K : PySem.W.Frag) (h : X.K = K) : OpR X (compareOp .In) (rIn K false) := h ▸ op_in_seq
theorem ko_notIn (K : PySem.W.Frag) (h : X.K = K) : OpR X (compareOp .NotIn) (rIn K true) := h ▸ op_notIn_seq
theorem kc_list (K : PySem.W.Frag) (h : X.K = K) : CallR X (.type "list") (fun xs H Q => ∃ p ys, xs = [.ref p] ∧ (SqL K H p ys ∨ SqT K H p ys) ∧ ∀ l, H l = none → Q (.ref l) (upd H l (.lst ys))) := h ▸ call_list_of
theorem kc_len (K : PySem.W.Frag) (h : X.K = K) : CallR X (.builtin "len") (fun xs H Q => ∃ p ys, xs = [.ref p] ∧ (SqL K H p ys ∨ SqT K H p ys) ∧ Q (.int ys.length) H) := h ▸ call_len_seq
theorem ko_eqD (K : PySem.W.Frag) (h : X.K = K) (hu : X.A.units + 64 < cLine) : OpR X (compareOp .Eq) (rEqD K) := h ▸ op_eqD hu
theorem ko_neD (K : PySem.W.Frag) (h : X.K = K) (hu : X.A.units + 64 < cLine) : OpR X (compareOp .NotEq) (rNeD K) := h ▸ op_neD hu
theorem kc_isi (K : PySem.W.Frag) (h : X.K = K) : CallR X (.builtin "isinstance") (rIsi K) := h ▸ call_isi
theorem kc_sortedI (K : PySem.W.Frag) (h : X.K = K) : CallR X (.builtin "sorted") (rSortedI K) := h ▸ cr_sortedI
theorem kc_sum (K : PySem.W.Frag) (h : X.K = K) (hc : X.calm = true) : CallR X (.builtin "sum") (rSum K) := h ▸ cr_sum hc
theorem kc_all (K : PySem.W.Frag) (h : X.K = K) (hc : X.calm = true) : CallR X (.builtin "all") (rAll K) := h ▸ cr_all hc
theorem kc_set (K : PySem.W.Frag) (w : World) (h : X.K = K) (hw : X.w = w) (hc : X.calm = true) : CallR X (.type "set") (rSetI K w) := h ▸ hw ▸ cr_setI hc
theorem kc_sortedSet (w : World) (hw : X.w = w) (hc : X.calm = true) : CallR X (.builtin "sorted") (rSortedSetI w) := hw ▸ cr_sortedSetI hc
theorem kg_tup {pos : Pos} (K : PySem.W.Frag) {es : List Expr} {k : Nat} {t : TGs} {n : Nat} (h : X.K = K) (hc : X.calm = true) (hs : PGs X es t)
    (hn : (assignEach es X.env).length = n := by rfl) (hst : (assignEach es X.env).findIdx? (·.1) = none := by rfl) : PG X (.Tuple es k pos) (gTup K n t) := h ▸ pg_tup hc hs hn hst
end
end DL
end
section
namespace DL
open PySem PySem.Spec PyProof.Rows L2
open Rp (rp)
open Dt (toD)
/-! ### data of any shape -/
mutual
inductive PdR (G : Hp) : V → PyData → Prop
  | non : PdR G .non .none
  | bl (b : Bool) : PdR G (.bl b) (.bool b)
  | int (i : Int) : PdR G (.int i) (.int i)
  | str (x : Str) : PdR G (.str x) (.str x)
  | lst {a : Addr} {xs : List V} {ds : List PyData} : G a = some (.lst xs) → PdA G xs ds → ds.length ≤ 1000000 → PdR G (.ref a) (.list ds)
  | tup {a : Addr} {xs : List V} {ds : List PyData} : G a = some (.tup xs) → PdA G xs ds → ds.length ≤ 1000000 → PdR G (.ref a) (.tuple ds)
inductive PdA (G : Hp) : List V → List PyData → Prop
  | nil : PdA G [] []
  | cons {v : V} {vs : List V} {d : PyData} {ds : List PyData} : PdR G v d → PdA G vs ds → PdA G (v :: vs) (d :: ds)
end
mutual
theorem PdR.ex {G H : Hp} (e : Ex G H) : ∀ {d : PyData} {v : V}, PdR G v d → PdR H v d
  | .none, _, h => by cases h; exact .non
  | .bool b, _, h => by cases h; exact .bl _
  | .int i, _, h => by cases h; exact .int _
  | .str x, _, h => by cases h; exact .str _
  | .list ds, _, h => by
    cases h with
    | lst k l n => exact .lst (e _ _ k) (PdA.ex e l) n
  | .tuple ds, _, h => by
    cases h with
    | tup k l n => exact .tup (e _ _ k) (PdA.ex e l) n
  | .dict _, _, h => by cases h
theorem PdA.ex {G H : Hp} (e : Ex G H) : ∀ {ds : List PyData} {vs : List V}, PdA G vs ds → PdA H vs ds
  | [], _, h => by cases h; exact .nil
  | d :: ds, _, h => by
    cases h with
    | cons a b => exact .cons (PdR.ex e a) (PdA.ex e b)
end
mutual
theorem PdR.dp {K : PySem.W.Frag} {G : Hp} : ∀ {d : PyData} {v : V}, PdR G v d → Dp K G v d
  | .none, _, h => by cases h; exact .non
  | .bool b, _, h => by cases h; exact .bl _
  | .int i, _, h => by cases h; exact .int _
  | .str x, _, h => by cases h; exact .str _
  | .list ds, _, h => by
    cases h with
    | lst k l n => exact .lst (.inl (.inl k)) (PdA.dp l)
  | .tuple ds, _, h => by
    cases h with
    | tup k l n => exact .tup (.inl (.inl k)) (PdA.dp l)
  | .dict _, _, h => by cases h
theorem PdA.dp {K : PySem.W.Frag} {G : Hp} : ∀ {ds : List PyData} {vs : List V}, PdA G vs ds → DpAll K G vs ds
  | [], _, h => by cases h; exact .nil
  | d :: ds, _, h => by
    cases h with
    | cons a b => exact .cons (PdR.dp a) (PdA.dp b)
end
theorem PdA.length {G : Hp} : ∀ {ds : List PyData} {vs : List V}, PdA G vs ds → vs.length = ds.length
  | [], _, h => by cases h; rfl
  | d :: ds, _, h => by
    cases h with
    | cons a b => simp [PdA.length b]
theorem PdA.get {G : Hp} : ∀ {ds : List PyData} {vs : List V} {i : Nat} {d : PyData}, PdA G vs ds → ds[i]? = some d → ∃ v, vs[i]? = some v ∧ PdR G v d
  | [], _, _, _, _, e => by simp at e
  | d :: ds, _, 0, _, h, e => by
    cases h with
    | cons a b =>
      cases e
      exact ⟨_, rfl, a⟩
  | d :: ds, _, i + 1, _, h, e => by
    cases h with
    | cons a b => exact PdA.get (i := i) b e
/-- data as a value of a variable -/
structure PD where
  d : PyData
instance : Rp PD := ⟨fun G v x => PdR G v x.d ∧ x.d.canLay0 = true ∧ x.d.depth ≤ 64, fun e h => ⟨h.1.ex e, h.2⟩⟩
def isSeqD : PyData → Bool
  | .list _ => true
  | .tuple _ => true
  | _ => false
def isListD : PyData → Bool
  | .list _ => true
  | _ => false
def isBoolD : PyData → Bool
  | .bool _ => true
  | _ => false
def isIntD : PyData → Bool
  | .bool _ => true
  | .int _ => true
  | _ => false
def isStrD : PyData → Bool
  | .str _ => true
  | _ => false
def itemsD : PyData → List PyData
  | .list xs => xs
  | .tuple xs => xs
  | _ => []
def tyD : PyData → String
  | .none => "NoneType"
  | .bool _ => "bool"
  | .int _ => "int"
  | .str _ => "str"
  | .list _ => "list"
  | .tuple _ => "tuple"
  | .dict _ => "dict"
theorem PdR.ty {K : PySem.W.Frag} {G : Hp} {v : V} {d : PyData} (h : PdR G v d) : TyX K G v (.type (tyD d)) := by
  cases h with
  | non => exact .base .non
  | bl => exact .base (.bl _)
  | int => exact .base (.int _)
  | str => exact .base (.str _)
  | lst h => exact .base (.lst h)
  | tup h => exact .base (.tup h)
theorem kit_list (d : PyData) : kitB (tyD d) "list" = some (isListD d) := by
  cases d
  · exact (by decide +kernel : kitB "NoneType" "list" = some false)
  · exact (by decide +kernel : kitB "bool" "list" = some false)
  · exact (by decide +kernel : kitB "int" "list" = some false)
  · exact (by decide +kernel : kitB "str" "list" = some false)
  · exact (by decide +kernel : kitB "list" "list" = some true)
  · exact (by decide +kernel : kitB "tuple" "list" = some false)
  · exact (by decide +kernel : kitB "dict" "list" = some false)
theorem kit_bool (d : PyData) : kitB (tyD d) "bool" = some (isBoolD d) := by
  cases d
  · exact (by decide +kernel : kitB "NoneType" "bool" = some false)
  · exact (by decide +kernel : kitB "bool" "bool" = some true)
  · exact (by decide +kernel : kitB "int" "bool" = some false)
  · exact (by decide +kernel : kitB "str" "bool" = some false)
  · exact (by decide +kernel : kitB "list" "bool" = some false)
  · exact (by decide +kernel : kitB "tuple" "bool" = some false)
  · exact (by decide +kernel : kitB "dict" "bool" = some false)
theorem kit_int (d : PyData) : kitB (tyD d) "int" = some (isIntD d) := by
  cases d
  · exact (by decide +kernel : kitB "NoneType" "int" = some false)
  · exact (by decide +kernel : kitB "bool" "int" = some true)
  · exact (by decide +kernel : kitB "int" "int" = some true)
  · exact (by decide +kernel : kitB "str" "int" = some false)
  · exact (by decide +kernel : kitB "list" "int" = some false)
  · exact (by decide +kernel : kitB "tuple" "int" = some false)
  · exact (by decide +kernel : kitB "dict" "int" = some false)
theorem kit_str (d : PyData) : kitB (tyD d) "str" = some (isStrD d) := by
  cases d
  · exact (by decide +kernel : kitB "NoneType" "str" = some false)
  · exact (by decide +kernel : kitB "bool" "str" = some false)
  · exact (by decide +kernel : kitB "int" "str" = some false)
  · exact (by decide +kernel : kitB "str" "str" = some true)
  · exact (by decide +kernel : kitB "list" "str" = some false)
  · exact (by decide +kernel : kitB "tuple" "str" = some false)
  · exact (by decide +kernel : kitB "dict" "str" = some false)
theorem kit_tuple (d : PyData) : ∃ b, kitB (tyD d) "tuple" = some b ∧ isSeqD d = (isListD d || b) := by
  cases d
  · exact ⟨false, by decide +kernel, rfl⟩
  · exact ⟨false, (by decide +kernel : kitB "bool" "tuple" = some false), rfl⟩
  · exact ⟨false, (by decide +kernel : kitB "int" "tuple" = some false), rfl⟩
  · exact ⟨false, (by decide +kernel : kitB "str" "tuple" = some false), rfl⟩
  · exact ⟨false, (by decide +kernel : kitB "list" "tuple" = some false), rfl⟩
  · exact ⟨true, (by decide +kernel : kitB "tuple" "tuple" = some true), rfl⟩
  · exact ⟨false, (by decide +kernel : kitB "dict" "tuple" = some false), rfl⟩
theorem kit_seq {K : PySem.W.Frag} (d : PyData) : PySem.W.kitAny K (.type (tyD d)) [.type "list", .type "tuple"] = some (isSeqD d) := by
  obtain ⟨b, h1, h2⟩ := kit_tuple d
  refine kitAny_cons (kit_ty (kit_list d)) (fun e => ?_) (fun e => by rw [h2, e]; rfl)
  refine kitAny_cons (kit_ty h1) (fun e2 => ?_) (fun e2 => by rw [h2, e2, e]; rfl)
  rw [h2, e, e2]
  exact kitAny_nil
section
variable {α β γ δ : Type} [Rp α] [Rp β] [Rp γ] [Rp δ] {K : PySem.W.Frag} {τ : Env} {O O1 O2 O3 O' : Own} {ta tb te : TE} {x y : PD}
theorem ev_isP {n : String} {bb : Bool} (ha : Ev ta τ O x O1) (h : kitB (tyD x.d) n = some bb) : Ev (tCB (rIsi K) (tCons ta (tCons (tC (.ty n)) tNil))) τ O bb O1 := fun σ G0 G H s w Q q =>
  ha σ G0 G H s w _ fun v G2 H2 e2 w2 r2 => ⟨v, .ty n, .type (tyD x.d), .type n, bb, rfl, .ty n, (r2.1.ex w2.ex).ty, kit_ty h, q _ G2 H2 e2 w2 rfl⟩
theorem ev_isP2 (ha : Ev ta τ O x O1) : Ev (tCB (rIsiT K) (tCons ta (tCons (tTup (tCons (tC (.ty "list")) (tCons (tC (.ty "tuple")) tNil))) tNil))) τ O (isSeqD x.d) O1 := fun σ G0 G H s w Q q =>
  ha σ G0 G H s w _ fun v G2 H2 e2 w2 r2 => ⟨by show 2 ≤ sizeLine; decide, fun p hp => by
    obtain ⟨e3, w3⟩ := w2.grow (o := .tup [.ty "list", .ty "tuple"]) hp
    exact ⟨v, p, _, .type (tyD x.d), [.type "list", .type "tuple"], _, rfl, upd_same, .cons (.ty _) (.cons (.ty _) .nil), ((r2.1.ex e3).ex w3.ex).ty, kit_seq x.d, q _ _ _ (e2.trans e3) w3 rfl⟩⟩
theorem PdR.seq {G : Hp} {v : V} {d : PyData} (h : PdR G v d) (hs : isSeqD d = true) : ∃ a vs, v = .ref a ∧ (G a = some (.lst vs) ∨ G a = some (.tup vs)) ∧ PdA G vs (itemsD d) ∧ (itemsD d).length ≤ 1000000 := by
  cases h with
  | lst h k n => exact ⟨_, _, rfl, .inl h, k, n⟩
  | tup h k n => exact ⟨_, _, rfl, .inr h, k, n⟩
  | _ => cases hs
theorem ev_lenP (ha : Ev ta τ O x O1) (h : isSeqD x.d = true) : Ev (tCB (rLenS K) (tCons ta tNil)) τ O ((itemsD x.d).length : Int) O1 := fun σ G0 G H s w Q q =>
  ha σ G0 G H s w _ fun v G2 H2 e2 w2 r2 => by
    obtain ⟨a, vs, rfl, k, hv, _⟩ := (r2.1.ex w2.ex).seq h
    refine ⟨a, vs, rfl, ?_, q _ G2 H2 e2 w2 (by rw [hv.length]; rfl)⟩
    rcases k with k | k
    · exact .inl (.inl (.inl k))
    · exact .inr (.inl (.inl k))
theorem lay_get {ds : List PyData} : ∀ {i : Nat} {d : PyData}, ds[i]? = some d → PyData.canLayAll0 ds = true → d.canLay0 = true ∧ d.depth ≤ PyData.depthAll ds := by
  induction ds with
  | nil => intro i d e; simp at e
  | cons c ds ih =>
    intro i d e h
    rw [PyData.canLayAll0, Bool.and_eq_true] at h
    rw [PyData.depthAll]
    cases i with
    | zero =>
      cases e
      exact ⟨h.1, by omega⟩
    | succ i =>
      have := ih (i := i) e h.2
      exact ⟨this.1, by omega⟩
theorem lay_items {d c : PyData} {i : Nat} (h : d.canLay0 = true) (e : (itemsD d)[i]? = some c) : c.canLay0 = true ∧ c.depth + 1 ≤ d.depth := by
  cases d with
  | list ds =>
    rw [PyData.canLay0] at h
    have := lay_get e h
    rw [PyData.depth]
    have h2 : c.depth ≤ PyData.depthAll ds := this.2
    exact ⟨this.1, by omega⟩
  | tuple ds =>
    rw [PyData.canLay0] at h
    have := lay_get e h
    rw [PyData.depth]
    have h2 : c.depth ≤ PyData.depthAll ds := this.2
    exact ⟨this.1, by omega⟩
  | _ => simp [itemsD] at e
theorem ev_ixP {i : Int} {c : PyData} (ha : Ev ta τ O x O1) (hb : Ev tb τ O1 i O2) (h0 : 0 ≤ i) (h : isSeqD x.d = true) (e : (itemsD x.d)[i.toNat]? = some c) : Ev (tOp (rIx K) ta tb) τ O (PD.mk c) O2 := fun σ G0 G H s w Q q =>
  ha σ G0 G H s w _ fun v G2 H2 e2 w2 r2 => hb σ G0 G2 H2 (s.mono e2) w2 _ fun v3 G3 H3 e3 w3 r3 => by
    obtain ⟨a, vs, rfl, k, hv, _⟩ := r2.1.seq h
    obtain ⟨u, hu, hr⟩ := hv.get e
    have hat : atI vs i = some u := by
      have hj := (List.getElem?_eq_some_iff.mp hu).1
      have := atI_nat hu
      rw [show ((i.toNat : Nat) : Int) = i by omega] at this
      exact this
    obtain ⟨l1, l2⟩ := lay_items r2.2.1 e
    have hd := r2.2.2
    have fin := q u G3 H3 (e2.trans e3) w3 ⟨hr.ex e3, l1, by show c.depth ≤ 64; omega⟩
    have up := e3.trans w3.ex
    rcases k with k | k
    · exact .inl ⟨a, vs, i, u, rfl, r3, .inl (.inl (up _ _ k)), hat, fin⟩
    · exact .inr (.inl ⟨a, vs, i, u, rfl, r3, .inl (.inl (up _ _ k)), hat, fin⟩)
theorem ev_eqP (ha : Ev ta τ O x O1) (hb : Ev tb τ O1 y O2) : Ev (tOp (rEqD K) ta tb) τ O (PyData.eqv x.d y.d) O2 := fun σ G0 G H s w Q q =>
  ha σ G0 G H s w _ fun v G2 H2 e2 w2 r2 => hb σ G0 G2 H2 (s.mono e2) w2 _ fun v3 G3 H3 e3 w3 r3 =>
    ⟨x.d, y.d, (r2.1.ex (e3.trans w3.ex)).dp, (r3.1.ex w3.ex).dp, by unfold SeqAt.shaped; rw [r2.2.1, decide_eq_true r2.2.2]; rfl, by unfold SeqAt.shaped; rw [r3.2.1, decide_eq_true r3.2.2]; rfl, q _ G3 H3 (e2.trans e3) w3 rfl⟩
end
/-! ### _law_alike -/
def scalD (f d : PyData) : Bool := (isBoolD f == isBoolD d) && (isIntD f == isIntD d) && ((isStrD f == isStrD d) && PyData.eqv f d)
def allZ (g : PyData → PyData → Bool) : List PyData → List PyData → Bool
  | x :: xs, y :: ys => g x y && allZ g xs ys
  | [], [] => true
  | _, _ => false
def alikeN : Nat → PyData → PyData → Bool
  | 0, f, d => !isSeqD d && scalD f d
  | n + 1, f, d => if isSeqD d = true then (isSeqD f && (isListD f == isListD d)) && allZ (alikeN n) (itemsD f) (itemsD d) else scalD f d
def SA : Nat → Spec
  | 0 => fun _ _ _ _ => False
  | n + 1 => fun ds O r O' => ∃ x y : PD, y.d.depth ≤ n ∧ ds = [dy x, dy y] ∧ O = O' ∧ r = .fro (dy (alikeN n x.d y.d))
theorem allZ_len {g : PyData → PyData → Bool} : ∀ {xs ys : List PyData}, xs.length ≠ ys.length → allZ g xs ys = false
  | [], [], h => (h rfl).elim
  | _ :: _, [], _ => rfl
  | [], _ :: _, _ => rfl
  | x :: xs, y :: ys, h => by
    unfold allZ
    rw [allZ_len (g := g) (xs := xs) (ys := ys) (by simpa using h), Bool.and_false]
theorem mapO_some {α β : Type} (g : α → β) : ∀ xs : List α, mapO xs (fun x => some (g x)) = some (xs.map g)
  | [] => rfl
  | x :: xs => by
    unfold mapO
    rw [Option.bind_some, mapO_some g xs]
    rfl
theorem all_range {g : PyData → PyData → Bool} : ∀ {xs ys : List PyData}, xs.length = ys.length → ((List.range ys.length).all fun i => g (xs.getD i .none) (ys.getD i .none)) = allZ g xs ys
  | [], [], _ => rfl
  | _ :: _, [], h => by simp at h
  | [], _ :: _, h => by simp at h
  | x :: xs, y :: ys, h => by
    have ih := all_range (g := g) (xs := xs) (ys := ys) (by simpa using h)
    rw [List.length_cons, List.range_succ_eq_map, List.all_cons, List.all_map]
    unfold allZ
    rw [← ih]
    rfl
theorem all_rng {g : PyData → PyData → Bool} {xs ys : List PyData} (h : xs.length = ys.length) : ((rng 0 (ys.length : Int)).map fun i => g (xs.getD i.toNat .none) (ys.getD i.toNat .none)).all id = allZ g xs ys := by
  rw [← all_range h]
  unfold rng
  rw [List.map_map, List.all_map, show ((ys.length : Int) - 0).toNat = ys.length by omega]
  refine congrArg (fun f => List.all (List.range ys.length) f) (funext fun i => ?_)
  show g (xs.getD (0 + (i : Int)).toNat .none) (ys.getD (0 + (i : Int)).toNat .none) = _
  rw [show (0 + (i : Int)).toNat = i by omega]
theorem fn_vac {P : Program} {w : World} {K : PySem.W.Frag} {mg : Str → Option Value} {base : Heap} {f : Addr} {fd : FuncData} {ps : List Str} : FnOk P w K mg base CX0 0 f fd ps (sp (SA 0)) :=
  ⟨fun vs H Q E h => by obtain ⟨_, _, _, _, _, _, _, h, _⟩ := h; exact h.elim, fun A outer s H args us vs Q E _ _ _ _ h => by obtain ⟨_, _, _, _, _, _, _, h, _⟩ := h; exact h.elim⟩
theorem depth_get {ds : List PyData} : ∀ {i : Nat} {d : PyData}, ds[i]? = some d → d.depth ≤ PyData.depthAll ds := by
  induction ds with
  | nil => intro i d e; simp at e
  | cons c ds ih =>
    intro i d e
    rw [PyData.depthAll]
    cases i with
    | zero =>
      cases e
      omega
    | succ i =>
      have := ih (i := i) e
      omega
theorem depth_items {d c : PyData} {i : Nat} (e : (itemsD d)[i]? = some c) : c.depth + 1 ≤ d.depth := by
  cases d with
  | list ds =>
    have h2 : c.depth ≤ PyData.depthAll ds := depth_get e
    rw [PyData.depth]
    omega
  | tuple ds =>
    have h2 : c.depth ≤ PyData.depthAll ds := depth_get e
    rw [PyData.depth]
    omega
  | _ => simp [itemsD] at e
theorem depth_pos {d : PyData} (h : isSeqD d = true) : 1 ≤ d.depth := by
  cases d with
  | list ds => rw [PyData.depth]; omega
  | tuple ds => rw [PyData.depth]; omega
  | _ => cases h
theorem getD_get {ds : List PyData} {i : Nat} (h : i < ds.length) : ds[i]? = some (ds.getD i .none) := by
  rw [List.getD_eq_getElem?_getD, List.getElem?_eq_getElem h]
  rfl
theorem nx_fact {α : Type} [Rp α] {τ : Env} {O : Own} {G0 : Hp} {N : L2.St → Hp → Prop} {i : Nat} {x : α} (p : Prop) (hi : τ[i]? = some (some (dy x))) (hp : ∀ (G : Hp) (v : V), rp G v x → p) (h : p → Nx G0 N τ O) : Nx G0 N τ O := fun σ G H s w => by
  obtain ⟨v, _, r⟩ := s.get hi
  exact h (hp G v r) σ G H s w
theorem items_len {G : Hp} {v : V} {x : PD} (h : rp G v x) : (itemsD x.d).length ≤ 1000000 := by
  cases e : isSeqD x.d with
  | true =>
    obtain ⟨_, _, _, _, _, hl⟩ := h.1.seq e
    exact hl
  | false =>
    obtain ⟨d⟩ := x
    cases d <;> first | exact Nat.zero_le _ | cases e
theorem mem_rng' {a b x : Int} : x ∈ rng a b ↔ a ≤ x ∧ x < b := by
  unfold rng
  rw [List.mem_map]
  constructor
  · rintro ⟨i, hi, rfl⟩
    rw [List.mem_range] at hi
    omega
  · rintro ⟨h1, h2⟩
    exact ⟨(x - a).toNat, List.mem_range.mpr (by omega), by omega⟩
theorem rngO_len {n : Nat} (h : n ≤ 1000000) : rngO 0 (n : Int) = some (rng 0 n) := if_pos (by omega)
/-! ### what it tells of data of one type -/
class Dl (α : Type) [Rp α] [Dt α] where
  pd : ∀ {G : Hp} {v : V} {x : α}, rp G v x → PdR G v (toD x)
  dep : ∀ x : α, (toD x).depth ≤ Dt.dn α
instance : Dl Int := ⟨fun h => by cases h; exact .int _, fun x => by show PyData.depth (.int x) ≤ _; simp [PyData.depth]⟩
instance : Dl Bool := ⟨fun h => by cases h; exact .bl _, fun x => by show PyData.depth (.bool x) ≤ _; simp [PyData.depth]⟩
instance {α : Type} [Rp α] [Dt α] [Dl α] : Dl (Option α) := ⟨fun {G v x} h => by
  cases x with
  | none =>
    cases h
    exact .non
  | some x => exact Dl.pd (α := α) h, fun x => by
  cases x with
  | none => show PyData.depth .none ≤ _; simp [PyData.depth]
  | some x => exact Dl.dep (α := α) x⟩
theorem pdAll {α : Type} [Rp α] [Dt α] [Dl α] {G : Hp} : ∀ {vs : List V} {xs : List α}, RpL G vs xs → PdA G vs (xs.map toD)
  | [], [], _ => .nil
  | _ :: _, _ :: _, ⟨h, t⟩ => .cons (Dl.pd h) (pdAll t)
  | [], _ :: _, h => h.elim
  | _ :: _, [], h => h.elim
theorem depAll {α : Type} [Rp α] [Dt α] [Dl α] : ∀ xs : List α, PyData.depthAll (xs.map toD) ≤ Dt.dn α
  | [] => by simp [PyData.depthAll]
  | x :: xs => by
    rw [List.map_cons, PyData.depthAll]
    have := Dl.dep x
    have := depAll xs
    omega
instance {α : Type} [Rp α] [Dt α] [Dl α] : Dl (List α) := ⟨fun ⟨a, vs, h1, h2, h3, h4⟩ => by
  subst h1
  exact .lst h2 (pdAll h3) (by rw [List.length_map]; exact h4), fun x => by
  show PyData.depth (.list (x.map toD)) ≤ Dt.dn α + 1
  rw [PyData.depth]
  have := depAll x
  omega⟩
instance {α β : Type} [Rp α] [Rp β] [Dt α] [Dt β] [Dl α] [Dl β] : Dl (T2 α β) := ⟨fun ⟨t, v1, v2, h, g, h1, h2⟩ => by
  subst h
  exact .tup g (.cons (Dl.pd h1) (.cons (Dl.pd h2) .nil)) (show 2 ≤ 1000000 by decide), fun x => by
  show PyData.depth (.tuple [toD x.a, toD x.b]) ≤ (max (Dt.dn α) (Dt.dn β)) + 1
  simp only [PyData.depth, PyData.depthAll]
  have := Dl.dep x.a
  have := Dl.dep x.b
  omega⟩
instance {α β γ : Type} [Rp α] [Rp β] [Rp γ] [Dt α] [Dt β] [Dt γ] [Dl α] [Dl β] [Dl γ] : Dl (T3 α β γ) := ⟨fun ⟨t, v1, v2, v3, h, g, h1, h2, h3⟩ => by
  subst h
  exact .tup g (.cons (Dl.pd h1) (.cons (Dl.pd h2) (.cons (Dl.pd h3) .nil))) (show 3 ≤ 1000000 by decide), fun x => by
  show PyData.depth (.tuple [toD x.a, toD x.b, toD x.c]) ≤ (max (Dt.dn α) (max (Dt.dn β) (Dt.dn γ))) + 1
  simp only [PyData.depth, PyData.depthAll]
  have := Dl.dep x.a
  have := Dl.dep x.b
  have := Dl.dep x.c
  omega⟩
instance {α β γ δ : Type} [Rp α] [Rp β] [Rp γ] [Rp δ] [Dt α] [Dt β] [Dt γ] [Dt δ] [Dl α] [Dl β] [Dl γ] [Dl δ] : Dl (T4 α β γ δ) := ⟨fun ⟨t, v1, v2, v3, v4, h, g, h1, h2, h3, h4⟩ => by
  subst h
  exact .tup g (.cons (Dl.pd h1) (.cons (Dl.pd h2) (.cons (Dl.pd h3) (.cons (Dl.pd h4) .nil)))) (show 4 ≤ 1000000 by decide), fun x => by
  show PyData.depth (.tuple [toD x.a, toD x.b, toD x.c, toD x.d]) ≤ (max (Dt.dn α) (max (Dt.dn β) (max (Dt.dn γ) (Dt.dn δ)))) + 1
  simp only [PyData.depth, PyData.depthAll]
  have := Dl.dep x.a
  have := Dl.dep x.b
  have := Dl.dep x.c
  have := Dl.dep x.d
  omega⟩
class Da (α : Type) [Rp α] [Dt α] [DecidableEq α] where
  al : ∀ (n : Nat) (x y : α), (toD y).depth ≤ n → alikeN n (toD x) (toD y) = decide (x = y)
theorem alike_scal {n : Nat} {f d : PyData} (h : isSeqD d = false) : alikeN n f d = scalD f d := by
  cases n with
  | zero => unfold alikeN; rw [h]; rfl
  | succ n => unfold alikeN; rw [h]; rfl
instance : Da Int := ⟨fun n x y _ => by
  show alikeN n (.int x) (.int y) = _
  rw [alike_scal rfl]
  show (true && true && (true && PyData.eqv (.int x) (.int y))) = _
  rw [show PyData.eqv (.int x) (.int y) = decide (x = y) from De.de x y]
  simp⟩
instance : Da Bool := ⟨fun n x y _ => by
  show alikeN n (.bool x) (.bool y) = _
  rw [alike_scal rfl]
  show (true && true && (true && PyData.eqv (.bool x) (.bool y))) = _
  rw [show PyData.eqv (.bool x) (.bool y) = decide (x = y) from De.de x y]
  simp⟩
theorem alike_none {n : Nat} {d : PyData} (h : PyData.eqv .none d = false) : alikeN n .none d = false := by
  cases e : isSeqD d with
  | false =>
    rw [alike_scal e]
    unfold scalD
    rw [h]
    simp
  | true =>
    cases n with
    | zero => unfold alikeN; rw [e]; rfl
    | succ n => unfold alikeN; rw [e]; rfl
instance {α : Type} [Rp α] [Dt α] [DecidableEq α] [Da α] [Dz α] : Da (Option α) := ⟨fun n x y hd => by
  cases y with
  | none =>
    show alikeN n (toD x) .none = _
    rw [alike_scal rfl]
    cases x with
    | none =>
      show (true && true && (true && PyData.eqv .none .none)) = _
      rw [PyData.eqv]
      rfl
    | some x =>
      unfold scalD
      show (_ && (_ && PyData.eqv (toD x) .none)) = _
      rw [(Dz.dz x).1]
      simp
  | some y =>
    cases x with
    | none =>
      show alikeN n .none (toD y) = _
      rw [alike_none (Dz.dz y).2]
      simp
    | some x =>
      show alikeN n (toD x) (toD y) = _
      rw [Da.al n x y hd]
      simp⟩
theorem allZ_da {α : Type} [Rp α] [Dt α] [DecidableEq α] [Da α] {n : Nat} : ∀ xs ys : List α, PyData.depthAll (ys.map toD) ≤ n → allZ (alikeN n) (xs.map toD) (ys.map toD) = decide (xs = ys)
  | [], [], _ => rfl
  | [], _ :: _, _ => by simp [allZ]
  | _ :: _, [], _ => by simp [allZ]
  | x :: xs, y :: ys, h => by
    rw [List.map_cons, PyData.depthAll] at h
    rw [List.map_cons, List.map_cons]
    unfold allZ
    rw [Da.al n x y (by omega), allZ_da xs ys (by omega)]
    by_cases e : x = y <;> simp [e]
instance {α : Type} [Rp α] [Dt α] [DecidableEq α] [Da α] : Da (List α) := ⟨fun n x y hd => by
  have hd : PyData.depth (.list (y.map toD)) ≤ n := hd
  rw [PyData.depth] at hd
  show alikeN n (.list (x.map toD)) (.list (y.map toD)) = _
  cases n with
  | zero => omega
  | succ n =>
    show (true && allZ (alikeN n) (x.map toD) (y.map toD)) = _
    rw [allZ_da x y (by omega), Bool.true_and]⟩
instance {α β : Type} [Rp α] [Rp β] [Dt α] [Dt β] [DecidableEq α] [DecidableEq β] [Da α] [Da β] : Da (T2 α β) := ⟨fun n x y hd => by
  obtain ⟨a, b⟩ := x
  obtain ⟨c, d⟩ := y
  have hd : PyData.depth (.tuple [toD c, toD d]) ≤ n := hd
  simp only [PyData.depth, PyData.depthAll] at hd
  show alikeN n (.tuple [toD a, toD b]) (.tuple [toD c, toD d]) = _
  cases n with
  | zero => omega
  | succ n =>
    show (true && (alikeN n (toD a) (toD c) && (alikeN n (toD b) (toD d) && true))) = _
    rw [Da.al n a c (by omega), Da.al n b d (by omega)]
    by_cases e : a = c <;> by_cases f : b = d <;> simp [e, f]⟩
instance {α β γ : Type} [Rp α] [Rp β] [Rp γ] [Dt α] [Dt β] [Dt γ] [DecidableEq α] [DecidableEq β] [DecidableEq γ] [Da α] [Da β] [Da γ] : Da (T3 α β γ) := ⟨fun n x y hd => by
  obtain ⟨a, b, c⟩ := x
  obtain ⟨d, e, f⟩ := y
  have hd : PyData.depth (.tuple [toD d, toD e, toD f]) ≤ n := hd
  simp only [PyData.depth, PyData.depthAll] at hd
  show alikeN n (.tuple [toD a, toD b, toD c]) (.tuple [toD d, toD e, toD f]) = _
  cases n with
  | zero => omega
  | succ n =>
    show (true && (alikeN n (toD a) (toD d) && (alikeN n (toD b) (toD e) && (alikeN n (toD c) (toD f) && true)))) = _
    rw [Da.al n a d (by omega), Da.al n b e (by omega), Da.al n c f (by omega)]
    by_cases h1 : a = d <;> by_cases h2 : b = e <;> by_cases h3 : c = f <;> simp [h1, h2, h3]⟩
instance {α β γ δ : Type} [Rp α] [Rp β] [Rp γ] [Rp δ] [Dt α] [Dt β] [Dt γ] [Dt δ] [DecidableEq α] [DecidableEq β] [DecidableEq γ] [DecidableEq δ] [Da α] [Da β] [Da γ] [Da δ] : Da (T4 α β γ δ) := ⟨fun n x y hd => by
  obtain ⟨a, b, c, p⟩ := x
  obtain ⟨d, e, f, q⟩ := y
  have hd : PyData.depth (.tuple [toD d, toD e, toD f, toD q]) ≤ n := hd
  simp only [PyData.depth, PyData.depthAll] at hd
  show alikeN n (.tuple [toD a, toD b, toD c, toD p]) (.tuple [toD d, toD e, toD f, toD q]) = _
  cases n with
  | zero => omega
  | succ n =>
    show (true && (alikeN n (toD a) (toD d) && (alikeN n (toD b) (toD e) && (alikeN n (toD c) (toD f) && (alikeN n (toD p) (toD q) && true))))) = _
    rw [Da.al n a d (by omega), Da.al n b e (by omega), Da.al n c f (by omega), Da.al n p q (by omega)]
    by_cases h1 : a = d <;> by_cases h2 : b = e <;> by_cases h3 : c = f <;> by_cases h4 : p = q <;> simp [h1, h2, h3, h4]⟩
/-! ### a call of it: frozen data or own lists -/
section
variable {α β : Type} [Rp α] {K : PySem.W.Frag} {τ : Env} {O O1 O2 O' : Own} {ta tb te : TE}
theorem nx_conv {G0 : Hp} {N : L2.St → Hp → Prop} {i : Nat} {xs : List α} (hi : τ[i]? = some (some (dy xs))) (h : Nx G0 N (τ.set i (some (dy (xs.map Option.some)))) O) : Nx G0 N τ O := fun σ G H s w => by
  obtain ⟨v, hv, r⟩ := s.get hi
  have r2 : rp G v (xs.map Option.some) := by
    obtain ⟨p, vs, h1, h2, h3, h4⟩ := r
    exact ⟨p, vs, h1, h2, h3.some, by rw [List.length_map]; exact h4⟩
  have s2 := s.set (d := dy (xs.map Option.some)) r2 i
  have e2 : σ.set i (some v) = σ := by
    apply List.ext_getElem?
    intro j
    by_cases e : i = j
    · subst e
      have hj := (List.getElem?_eq_some_iff.mp hv).1
      rw [List.getElem?_set_self hj, hv]
    · rw [List.getElem?_set_ne e]
  rw [e2] at s2
  exact h σ G H s2 w
theorem ev_isB {a b : Bool} (ha : Ev ta τ O a O1) (hb : Ev tb τ O1 b O2) : Ev (tOp rIsB ta tb) τ O (decide (a = b)) O2 := fun σ G0 G H s w Q q =>
  ha σ G0 G H s w _ fun v G2 H2 e2 w2 r2 => hb σ G0 G2 H2 (s.mono e2) w2 _ fun v3 G3 H3 e3 w3 r3 => ⟨a, b, r2, r3, q _ G3 H3 (e2.trans e3) w3 rfl⟩
theorem ev_isiO [Ty α] {x : Option α} {n : String} {b0 b1 : Bool} (ha : Ev ta τ O x O1) (h0 : kitB "NoneType" n = some b0) (h1 : kitB (Ty.ty α) n = some b1) : Ev (tCB (rIsi K) (tCons ta (tCons (tC (.ty n)) tNil))) τ O (bif x.isSome then b1 else b0) O1 := fun σ G0 G H s w Q q =>
  ha σ G0 G H s w _ fun v G2 H2 e2 w2 r2 => by
    cases x with
    | none =>
      cases r2
      exact ⟨.non, .ty n, .type "NoneType", .type n, b0, rfl, .ty n, .base .non, kit_ty h0, q _ G2 H2 e2 w2 rfl⟩
    | some x =>
      have r2 : rp G2 v x := r2
      exact ⟨v, .ty n, .type (Ty.ty α), .type n, b1, rfl, .ty n, Ty.ok (Rp.mono w2.ex r2), kit_ty h1, q _ G2 H2 e2 w2 rfl⟩
theorem unO_map : ∀ {xs : List (Option α)} {ys : List α}, mapO xs (fun o => o) = some ys → xs = ys.map Option.some
  | [], ys, h => by
    have h : some [] = some ys := h
    cases h
    rfl
  | x :: xs, ys, h => by
    unfold mapO at h
    obtain ⟨y, h1, h2⟩ := bE h
    cases e : mapO xs (fun o => o) with
    | none => rw [e] at h2; cases h2
    | some zs =>
      rw [e] at h2
      have h2 : some (y :: zs) = some ys := h2
      cases h2
      have h1 : x = some y := h1
      rw [unO_map e, h1]
      rfl
theorem RpL.unS {G : Hp} : ∀ {vs : List V} {xs : List α}, RpL G vs (xs.map Option.some) → RpL G vs xs
  | [], [], _ => trivial
  | _ :: _, _ :: _, ⟨h, t⟩ => ⟨h, RpL.unS t⟩
  | [], _ :: _, h => h.elim
  | _ :: _, [], h => h.elim
theorem ev_unS {xs : List (Option α)} {ys : List α} (h : Ev ta τ O xs O1) (e : mapO xs (fun o => o) = some ys) : Ev ta τ O ys O1 := fun σ G0 G H s w Q q => h σ G0 G H s w Q fun v G2 H2 e2 w2 r2 => by
  rw [unO_map e] at r2
  obtain ⟨p, vs, h1, h2, h3, h4⟩ := r2
  exact q v G2 H2 e2 w2 ⟨p, vs, h1, h2, h3.unS, by rw [List.length_map] at h4; exact h4⟩
theorem ev_lenT2 {β : Type} [Rp β] {x : T2 α β} (ha : Ev ta τ O x O1) : Ev (tCB (rLenS K) (tCons ta tNil)) τ O (2 : Int) O1 := fun σ G0 G H s w Q q =>
  ha σ G0 G H s w _ fun v G2 H2 e2 w2 ⟨t, v1, v2, h, g, _, _⟩ => ⟨t, [v1, v2], by rw [h], .inr (.inl (.inl (w2.ex _ _ g))), q _ G2 H2 e2 w2 rfl⟩
def EvQ (te : TE) (τ : Env) (O : Own) (p : PyData) (O' : Own) (Kp : Own → Prop) : Prop := ∀ (σ : L2.St) (G0 G H : Hp), Sl G σ τ → W G0 G O H → ∀ Q : VK, (∀ (v : V) (G2 H2 : Hp), Ex G G2 → W G0 G2 O' H2 → (∀ (G0 G3 H3 : Hp) (O3 : Own), Ex G2 G3 → W G0 G3 O3 H3 → Kp O3 → PdR H3 v p) → p.canLay0 = true ∧ p.depth ≤ 64 → Q v H2) → te σ H Q
theorem eq_fr [Dt α] [Dl α] {x : α} (h : Ev te τ O x O') (hd : Dt.dn α ≤ 64 := by decide) : EvQ te τ O (toD x) O' KT := fun σ G0 G H s w Q q => h σ G0 G H s w _ fun v G2 H2 e2 w2 r2 => q v G2 H2 e2 w2 (fun G0 G3 H3 O3 e3 w3 _ => PdR.ex (e3.trans w3.ex) (Dl.pd r2)) ⟨(Dt.sh (α := α) r2).1, Nat.le_trans (Dt.sh (α := α) r2).2 hd⟩
theorem eq_own [Dt α] [Dl α] {xs : List α} {i k : Nat} {l : Addr} (hi : τ[i]? = some (some (dyA l))) (hk : O[k]? = some (l, cL xs)) (hd : Dt.dn α ≤ 60 := by decide) : EvQ (tVar i) τ O (toD xs) O (KO l (cL xs)) := fun σ G0 G H s w Q q => by
  obtain ⟨v, hv, hd'⟩ := s.get hi
  have hd' : v = .ref l := hd'
  subst hd'
  obtain ⟨_, o, ho, vs, rfl, hr, hl⟩ := w.get hk
  refine ⟨_, hv, q _ G H (Ex.refl _) w (fun G0 G3 H3 O3 e3 w3 ⟨k3, hk3⟩ => ?_) ?_⟩
  · obtain ⟨_, o, ho, vs, rfl, hr, hl⟩ := w3.get hk3
    exact .lst ho (PdA.ex w3.ex (pdAll hr)) (by rw [List.length_map]; exact hl)
  · obtain ⟨k1, k2⟩ := shAll hr
    exact ⟨by show PyData.canLay0 (.list _) = true; rw [PyData.canLay0]; exact k1, by show PyData.depth (.list _) ≤ 64; rw [PyData.depth]; omega⟩
theorem ev_alike [Dt α] [Dl α] [DecidableEq α] [Da α] {x y : α} {n : Nat} {E : XK} {Kp Kq : Own → Prop} (ha : EvQ ta τ O (toD x) O1 Kp) (hb : EvQ tb τ O1 (toD y) O2 Kq) (hk : Kp O2) (hq : Kq O2) (hn : Dt.dn α ≤ n := by decide) : Ev (tCall (sp (SA (n + 1))) [] E (tCons ta (tCons tb tNil))) τ O (decide (x = y)) O2 := fun σ G0 G H s w Q q =>
  ha σ G0 G H s w _ fun v G2 H2 e2 w2 st sh => hb σ G0 G2 H2 (s.mono e2) w2 _ fun v3 G3 H3 e3 w3 st3 sh3 =>
    ⟨H3, [dy (PD.mk (toD x)), dy (PD.mk (toD y))], [], .fro (dy (alikeN n (toD x) (toD y))), [], ⟨⟨st G0 G3 H3 O2 e3 w3 hk, sh⟩, ⟨st3 G0 G3 H3 O2 (Ex.refl _) w3 hq, sh3⟩, trivial⟩, W.nil (Ex.refl _) (Ex.refl _), ⟨_, _, Nat.le_trans (Dl.dep y) hn, rfl, rfl, rfl⟩, fun v4 G4 H4 w4 r4 => by
      refine q v4 G3 H4 (e2.trans e3) (w3.exh (w4.base.trans w4.ex)) ?_
      rw [← Da.al n x y (Nat.le_trans (Dl.dep y) hn)]
      exact r4⟩
end
end DL
end
section
namespace DL
open PySem PySem.Spec PyProof.Rows L2
open Rp (rp)
/-! ### things whose parts are one's own, too -/
theorem Dj.sub {h k h' : Hp} (d : Dj h k) (e : Ex h' h) : Dj h' k := fun a => (d a).imp (fun z => e.none z) id
theorem Ex.of {h k : Hp} (f : ∀ a u, h a = some u → k a = some u) : Ex h k := f
structure Nd where
  Q : Hp → Addr → List Addr → HO → Prop
  mono : ∀ {G G' : Hp} {a : Addr} {as : List Addr} {o : HO}, Ex G G' → Q G a as o → Q G' a as o
  nt : ∀ {G : Hp} {a : Addr} {as : List Addr} {o : HO} {xs : List V}, Q G a as o → o ≠ .tup xs
def Nd.c1 (n : Nd) (a : Addr) (as : List Addr) : Cell1 := ⟨fun G o => n.Q G a as o, fun e h => n.mono e h, fun h => n.nt h⟩
structure Kids (h : Hp) (a : Addr) (o : HO) (as : List Addr) (cs : List Cell) (F : Addr → Hp) : Prop where
  root : h a = some o
  len : as.length = cs.length
  nd : (a :: as).Nodup
  ex : ∀ b c, (b, c) ∈ as.zip cs → Ex (F b) h ∧ F b a = none
  dj : ∀ b c b' c', (b, c) ∈ as.zip cs → (b', c') ∈ as.zip cs → b ≠ b' → Dj (F b) (F b')
  all : ∀ b u, h b = some u → (b = a ∧ u = o) ∨ ∃ b' c', (b', c') ∈ as.zip cs ∧ F b' b = some u
def Nd.c (n : Nd) (cs : List Cell) : Cell := ⟨fun G h a => ∃ o as F, n.Q G a as o ∧ Kids h a o as cs F ∧ ∀ b c, (b, c) ∈ as.zip cs → c.P G (F b) b,
  fun e ⟨o, as, F, q, k, p⟩ => ⟨o, as, F, n.mono e q, k, fun b c m => c.mono e (p b c m)⟩,
  fun ⟨o, as, F, q, k, p⟩ => by rw [k.root]; exact Option.some_ne_none _,
  fun {G h a b xs} ⟨o, as, F, q, k, p⟩ z => by
    rcases k.all b _ z with ⟨_, e⟩ | ⟨b', c', m, e⟩
    · exact n.nt q e.symm
    · exact c'.nt (p b' c' m) e⟩
theorem zip_fst : ∀ {as : List Addr} {cs : List Cell}, as.length = cs.length → (as.zip cs).map (·.1) = as
  | [], [], _ => rfl
  | [], _ :: _, h => by simp at h
  | _ :: _, [], h => by simp at h
  | a :: as, c :: cs, h => by
    show a :: (as.zip cs).map (·.1) = a :: as
    rw [zip_fst (by simpa using h)]
theorem zip_mem {as : List Addr} {cs : List Cell} {b : Addr} {c : Cell} (h : (b, c) ∈ as.zip cs) : b ∈ as := (List.of_mem_zip h).1
theorem W.unpack {G0 G H : Hp} {O : Own} {a : Addr} {n : Nd} {cs : List Cell} (w : W G0 G ((a, n.c cs) :: O) H) : ∃ as, as.length = cs.length ∧ W G0 G ((a, (n.c1 a as).c) :: (as.zip cs ++ O)) H := by
  obtain ⟨F, h1, h2⟩ := w.fp
  obtain ⟨⟨o, as, K, q, k, p⟩, d1, e1⟩ := h1 a _ (List.mem_cons_self ..)
  have nd := w.nd
  rw [List.map_cons, List.nodup_cons] at nd
  have knd := k.nd
  rw [List.nodup_cons] at knd
  have ga : G a = none := (w.here (List.mem_cons_self ..)).1
  have kroot : ∀ b c, (b, c) ∈ as.zip cs → K b b ≠ none := fun b c m => c.root (p b c m)
  have ka : ∀ b c, (b, c) ∈ as.zip cs → b ≠ a := fun b c m e => knd.1 (e ▸ zip_mem m)
  have oa : ∀ b d, (b, d) ∈ O → b ≠ a := fun b d m e => nd.1 (e ▸ fst_mem m)
  have oas : ∀ b d, (b, d) ∈ O → ∀ c, (b, c) ∈ as.zip cs → False := fun b d m c mk => by
    have dj := h2 a _ b d (List.mem_cons_self ..) (List.mem_cons_of_mem _ m) (fun e => oa b d m e.symm)
    have r1 : F b b ≠ none := d.root (h1 b d (List.mem_cons_of_mem _ m)).1
    have z := dj.ne r1
    exact kroot b c mk ((k.ex b c mk).1.none z)
  have mz : ∀ b, b ∈ as → ∃ c, (b, c) ∈ as.zip cs := fun b m => by
    rw [← zip_fst k.len] at m
    exact mem_fst m
  refine ⟨as, k.len, w.base, w.ex, ⟨fun b => if b = a then sgl a o else if b ∈ as then K b else F b, ?_, ?_⟩, ?_⟩
  · intro b d m
    rcases List.mem_cons.mp m with e | m
    · cases e
      simp only [if_true]
      exact ⟨⟨o, rfl, q⟩, Dj.sgl ga, sgl_ex (e1 a o k.root)⟩
    · rcases List.mem_append.mp m with m | m
      · simp only [if_neg (ka b d m), if_pos (zip_mem m)]
        exact ⟨p b d m, (d1.symm.sub (k.ex b d m).1).symm, (k.ex b d m).1.trans e1⟩
      · have n2 : ¬ b ∈ as := fun z => by
          obtain ⟨c, mc⟩ := mz b z
          exact oas b d m c mc
        simp only [if_neg (oa b d m), if_neg n2]
        exact h1 b d (List.mem_cons_of_mem _ m)
  · have key : ∀ b d, (b, d) ∈ (a, (n.c1 a as).c) :: (as.zip cs ++ O) → b ≠ a → (b ∈ as ∧ ∃ c, (b, c) ∈ as.zip cs) ∨ (¬ b ∈ as ∧ ∃ d, (b, d) ∈ O) := fun b d m ne => by
      rcases List.mem_cons.mp m with e | m
      · cases e
        exact absurd rfl ne
      · rcases List.mem_append.mp m with m | m
        · exact .inl ⟨zip_mem m, d, m⟩
        · refine .inr ⟨fun z => ?_, d, m⟩
          obtain ⟨c, mc⟩ := mz b z
          exact oas b d m c mc
    have fa : ∀ b d, (b, d) ∈ O → F b a = none := fun b d m => (h2 b d a _ (List.mem_cons_of_mem _ m) (List.mem_cons_self ..) (oa b d m)).ne (by rw [k.root]; exact Option.some_ne_none _)
    have ks : ∀ b c, (b, c) ∈ as.zip cs → Dj (sgl a o) (K b) := fun b c m => (Dj.sgl (k.ex b c m).2).symm
    have os : ∀ b d, (b, d) ∈ O → Dj (sgl a o) (F b) := fun b d m => (Dj.sgl (fa b d m)).symm
    have ko : ∀ b c b' d, (b, c) ∈ as.zip cs → (b', d) ∈ O → Dj (K b) (F b') := fun b c b' d m m' => (h2 a _ b' d (List.mem_cons_self ..) (List.mem_cons_of_mem _ m') (fun e => oa b' d m' e.symm)).sub (k.ex b c m).1
    intro b d b' d' m m' ne
    by_cases e : b = a
    · have e' : b' ≠ a := fun z => ne (e.trans z.symm)
      rcases key b' d' m' e' with ⟨i, c, mc⟩ | ⟨i, d, mc⟩
      · simp only [if_pos e, if_neg e', if_pos i]
        exact ks b' c mc
      · simp only [if_pos e, if_neg e', if_neg i]
        exact os b' d mc
    · by_cases e' : b' = a
      · rcases key b d m e with ⟨i, c, mc⟩ | ⟨i, d, mc⟩
        · simp only [if_neg e, if_pos e', if_pos i]
          exact (ks b c mc).symm
        · simp only [if_neg e, if_pos e', if_neg i]
          exact (os b d mc).symm
      · rcases key b d m e with ⟨i, c, mc⟩ | ⟨i, d, mc⟩
        · rcases key b' d' m' e' with ⟨i', c', mc'⟩ | ⟨i', d', mc'⟩
          · simp only [if_neg e, if_neg e', if_pos i, if_pos i']
            exact k.dj b c b' c' mc mc' ne
          · simp only [if_neg e, if_neg e', if_pos i, if_neg i']
            exact ko b c b' d' mc mc'
        · rcases key b' d' m' e' with ⟨i', c', mc'⟩ | ⟨i', d', mc'⟩
          · simp only [if_neg e, if_neg e', if_neg i, if_pos i']
            exact (ko b' c' b d mc' mc).symm
          · simp only [if_neg e, if_neg e', if_neg i, if_neg i']
            exact h2 b d b' d' (List.mem_cons_of_mem _ mc) (List.mem_cons_of_mem _ mc') ne
  · rw [List.map_cons, List.map_append, zip_fst k.len, List.nodup_cons]
    refine ⟨fun m => ?_, List.nodup_append.mpr ⟨knd.2, nd.2, fun x hx y hy e => ?_⟩⟩
    · rcases List.mem_append.mp m with m | m
      · exact knd.1 m
      · exact nd.1 m
    · subst e
      obtain ⟨c, mc⟩ := mz x hx
      obtain ⟨d, md⟩ := mem_fst hy
      exact oas x d md c mc
/-- the parts of a thing together -/
def un (F : Addr → Hp) : List Addr → Hp
  | [] => fun _ => none
  | b :: bs => fun x => match F b x with | some o => some o | none => un F bs x
theorem un_mem {F : Addr → Hp} {x : Addr} {o : HO} : ∀ {bs : List Addr}, un F bs x = some o → ∃ b ∈ bs, F b x = some o
  | [], h => by cases h
  | b :: bs, h => by
    unfold un at h
    split at h
    · next e => cases h; exact ⟨b, List.mem_cons_self .., e⟩
    · obtain ⟨c, m, e⟩ := un_mem (bs := bs) h
      exact ⟨c, List.mem_cons_of_mem _ m, e⟩
theorem un_of {F : Addr → Hp} {x : Addr} {o : HO} {b : Addr} (e : F b x = some o) : ∀ {bs : List Addr}, b ∈ bs → (∀ c ∈ bs, c ≠ b → Dj (F c) (F b)) → un F bs x = some o
  | [], h, _ => by simp at h
  | c :: bs, h, d => by
    unfold un
    by_cases z : c = b
    · subst z
      rw [e]
    · have n : F c x = none := (d c (List.mem_cons_self ..) z).ne (by rw [e]; exact Option.some_ne_none _)
      rw [n]
      rcases List.mem_cons.mp h with q | q
      · exact absurd q.symm z
      · exact un_of e q fun y hy => d y (List.mem_cons_of_mem _ hy)
theorem W.pack {G0 G H : Hp} {O : Own} {a : Addr} {n : Nd} {as : List Addr} {cs : List Cell} (hl : as.length = cs.length) (w : W G0 G ((a, (n.c1 a as).c) :: (as.zip cs ++ O)) H) : W G0 G ((a, n.c cs) :: O) H := by
  obtain ⟨F, h1, h2⟩ := w.fp
  have nd := w.nd
  rw [List.map_cons, List.map_append, zip_fst hl, List.nodup_cons, List.nodup_append] at nd
  obtain ⟨na, n1, n2, n3⟩ := nd
  obtain ⟨⟨o, ho, q⟩, d1, e1⟩ := h1 a _ (List.mem_cons_self ..)
  have inz : ∀ b c, (b, c) ∈ as.zip cs → (b, c) ∈ (a, (n.c1 a as).c) :: (as.zip cs ++ O) := fun b c m => List.mem_cons_of_mem _ (List.mem_append_left _ m)
  have ino : ∀ b c, (b, c) ∈ O → (b, c) ∈ (a, (n.c1 a as).c) :: (as.zip cs ++ O) := fun b c m => List.mem_cons_of_mem _ (List.mem_append_right _ m)
  have mz : ∀ b, b ∈ as → ∃ c, (b, c) ∈ as.zip cs := fun b m => by
    rw [← zip_fst hl] at m
    exact mem_fst m
  have fst : ∀ b, b ∈ a :: as → ∃ c, (b, c) ∈ (a, (n.c1 a as).c) :: (as.zip cs ++ O) := fun b m => by
    rcases List.mem_cons.mp m with e | m
    · exact ⟨_, by rw [e]; exact List.mem_cons_self ..⟩
    · obtain ⟨c, mc⟩ := mz b m
      exact ⟨c, inz b c mc⟩
  have dj : ∀ b ∈ a :: as, ∀ c ∈ a :: as, c ≠ b → Dj (F c) (F b) := fun b mb c mc ne => by
    obtain ⟨d, md⟩ := fst b mb
    obtain ⟨d', md'⟩ := fst c mc
    exact h2 c d' b d md' md ne
  have as_ne : ∀ b, b ∈ as → b ≠ a := fun b m e => na (List.mem_append_left _ (e ▸ m))
  have o_ne : ∀ b d, (b, d) ∈ O → b ≠ a := fun b d m e => na (List.mem_append_right _ (e ▸ fst_mem m))
  have o_as : ∀ b d, (b, d) ∈ O → ∀ c ∈ a :: as, c ≠ b := fun b d m c mc e => by
    rcases List.mem_cons.mp mc with z | z
    · exact o_ne b d m (e.symm.trans z)
    · exact n3 c z b (fst_mem m) e
  have djo : ∀ b d, (b, d) ∈ O → Dj (un F (a :: as)) (F b) := fun b d m x => by
    cases z : un F (a :: as) x with
    | none => exact .inl rfl
    | some u =>
      obtain ⟨c, mc, e⟩ := un_mem z
      obtain ⟨d', md'⟩ := fst c mc
      exact .inr ((h2 b d c d' (ino b d m) md' (fun z => o_as b d m c mc z.symm)).ne (by rw [e]; exact Option.some_ne_none _))
  refine ⟨w.base, w.ex, ⟨fun b => if b = a then un F (a :: as) else F b, ?_, ?_⟩, ?_⟩
  · intro b d m
    rcases List.mem_cons.mp m with e | m
    · cases e
      simp only [if_true]
      refine ⟨⟨o, as, F, q, ⟨?_, hl, ?_, ?_, ?_, ?_⟩, fun b c m => (h1 b c (inz b c m)).1⟩, fun x => ?_, fun x u z => ?_⟩
      · exact un_of (b := a) (by rw [ho]; exact sgl_same) (List.mem_cons_self ..) (dj a (List.mem_cons_self ..))
      · exact List.nodup_cons.mpr ⟨fun m => na (List.mem_append_left _ m), n1⟩
      · intro b c m
        refine ⟨fun x u e => un_of e (List.mem_cons_of_mem _ (zip_mem m)) (dj b (List.mem_cons_of_mem _ (zip_mem m))), ?_⟩
        exact (dj a (List.mem_cons_self ..) b (List.mem_cons_of_mem _ (zip_mem m)) (as_ne b (zip_mem m))).ne (by rw [ho, sgl_same]; exact Option.some_ne_none _)
      · intro b c b' c' m m' ne
        exact h2 b c b' c' (inz b c m) (inz b' c' m') ne
      · intro b u z
        obtain ⟨c, mc, e⟩ := un_mem z
        rcases List.mem_cons.mp mc with k | k
        · subst k
          rw [ho] at e
          unfold sgl at e
          split at e
          · next z2 =>
            cases e
            exact .inl ⟨z2, rfl⟩
          · cases e
        · obtain ⟨d, md⟩ := mz c k
          exact .inr ⟨c, d, md, e⟩
      · cases z : un F (a :: as) x with
        | none => exact .inr rfl
        | some u =>
          obtain ⟨c, mc, e⟩ := un_mem z
          obtain ⟨d', md'⟩ := fst c mc
          exact .inl ((h1 c d' md').2.1.ne (by rw [e]; exact Option.some_ne_none _))
      · obtain ⟨c, mc, e⟩ := un_mem z
        obtain ⟨d', md'⟩ := fst c mc
        exact (h1 c d' md').2.2 x u e
    · simp only [if_neg (o_ne b d m)]
      exact h1 b d (ino b d m)
  · intro b d b' d' m m' ne
    rcases List.mem_cons.mp m with e | m
    · cases e
      rcases List.mem_cons.mp m' with e' | m'
      · cases e'
        exact absurd rfl ne
      · simp only [if_true, if_neg (o_ne b' d' m')]
        exact djo b' d' m'
    · rcases List.mem_cons.mp m' with e' | m'
      · cases e'
        simp only [if_true, if_neg (o_ne b d m)]
        exact (djo b d m).symm
      · simp only [if_neg (o_ne b d m), if_neg (o_ne b' d' m')]
        exact h2 b d b' d' (ino b d m) (ino b' d' m') ne
  · rw [List.map_cons, List.nodup_cons]
    exact ⟨fun m => na (List.mem_append_right _ m), n2⟩
/-! ### lists of lists -/
def nN : Nd := ⟨fun G a as o => o = .lst (as.map V.ref) ∧ as.length ≤ 1000000, fun _ h => h, fun h z => by rw [h.1] at z; cases z⟩
abbrev cN {α : Type} [Rp α] (xss : List (List α)) : Cell := nN.c (xss.map cL)
theorem freezeZ {α : Type} [Rp α] {G0 H : Hp} {O : Own} : ∀ {as : List Addr} {xss : List (List α)} {G : Hp}, as.length = (xss.map cL).length → W G0 G (as.zip (xss.map cL) ++ O) H → ∃ G2, Ex G G2 ∧ W G0 G2 O H ∧ RpL G2 (as.map V.ref) xss
  | [], [], G, _, w => ⟨G, Ex.refl _, w, trivial⟩
  | [], _ :: _, _, h, _ => by simp at h
  | _ :: _, [], _, h, _ => by simp at h
  | a :: as, xs :: xss, G, h, w => by
    obtain ⟨G1, e1, w1, r1⟩ := W.freezeL (p := a) (xs := xs) (O := as.zip (xss.map cL) ++ O) w
    obtain ⟨G2, e2, w2, r2⟩ := freezeZ (as := as) (xss := xss) (by simpa using h) w1
    exact ⟨G2, e1.trans e2, w2, Rp.mono e2 r1, r2⟩
theorem W.freezeN {α : Type} [Rp α] {G0 G : Hp} {O : Own} {H : Hp} {p : Addr} {xss : List (List α)} (w : W G0 G ((p, cN xss) :: O) H) : ∃ G2, Ex G G2 ∧ W G0 G2 O H ∧ rp G2 (.ref p) xss := by
  obtain ⟨as, hl, w1⟩ := w.unpack
  have w2 : W G0 G (as.zip (xss.map cL) ++ ((p, (nN.c1 p as).c) :: O)) H := w1.perm List.perm_middle.symm
  obtain ⟨G1, e1, w3, r⟩ := freezeZ hl w2
  obtain ⟨o, ⟨rfl, ho⟩, e2, w4⟩ := w3.freeze
  refine ⟨_, e1.trans e2, w4, p, _, rfl, upd_same, r.mono e2, ?_⟩
  rw [hl, List.length_map] at ho
  exact ho
/-- a list of one's own is put behind a list of such -/
theorem W.push {G0 G H : Hp} {O : Own} {l L : Addr} {c : Cell} {cs : List Cell} (w : W G0 G ((l, c) :: (L, nN.c cs) :: O) H) : ∃ as : List Addr, H L = some (.lst (as.map V.ref)) ∧ as.length = cs.length ∧ (as.length < 1000000 → W G0 G ((L, nN.c (cs ++ [c])) :: O) (upd H L (.lst (as.map V.ref ++ [V.ref l])))) := by
  obtain ⟨as, hl, w1⟩ := (w.perm (List.Perm.swap _ _ _)).unpack
  obtain ⟨_, o, ho, rfl, hn⟩ := w1.own (List.mem_cons_self ..)
  refine ⟨as, ho, hl, fun hlt => ?_⟩
  have w2 := w1.put (k := 0) (c' := nN.c1 L (as ++ [l])) (o := .lst ((as ++ [l]).map V.ref)) rfl ⟨rfl, by rw [List.length_append]; show as.length + 1 ≤ 1000000; omega⟩
  rw [List.map_append] at w2
  refine W.pack (as := as ++ [l]) (cs := cs ++ [c]) (by rw [List.length_append, List.length_append, hl]; rfl) (w2.perm ?_)
  rw [List.zip_append hl, List.append_assoc]
  exact List.Perm.refl _
theorem zip_set : ∀ {as : List Addr} {cs : List Cell} {j : Nat} {b : Addr} {c : Cell}, as.length = cs.length → as[j]? = some b → (as.zip cs).set j (b, c) = as.zip (cs.set j c)
  | [], [], _, _, _, _, e => by simp at e
  | [], _ :: _, _, _, _, h, _ => by simp at h
  | _ :: _, [], _, _, _, h, _ => by simp at h
  | a :: as, d :: cs, 0, b, c, h, e => by
    have e : a = b := by simpa using e
    subst e
    rfl
  | a :: as, d :: cs, j + 1, b, c, h, e => by
    show (a, d) :: (as.zip cs).set j (b, c) = (a, d) :: as.zip (cs.set j c)
    rw [zip_set (by simpa using h) (by simpa using e)]
theorem zip_get : ∀ {as : List Addr} {cs : List Cell} {j : Nat} {b : Addr} {c : Cell}, as[j]? = some b → cs[j]? = some c → (as.zip cs)[j]? = some (b, c)
  | [], _, _, _, _, e, _ => by simp at e
  | _ :: _, [], _, _, _, _, e => by simp at e
  | a :: as, d :: cs, 0, b, c, e, f => by
    have e : a = b := by simpa using e
    have f : d = c := by simpa using f
    subst e
    subst f
    rfl
  | a :: as, d :: cs, j + 1, b, c, e, f => by
    show (as.zip cs)[j]? = _
    exact zip_get (by simpa using e) (by simpa using f)
theorem refs_inj {as bs : List Addr} (h : as.map V.ref = bs.map V.ref) : as = bs := List.map_inj_right (fun a b e => by cases e; rfl) |>.mp h
/-- the place of a list within a list of such -/
theorem W.kid {α : Type} [Rp α] {G0 G H : Hp} {O : Own} {k : Nat} {L : Addr} {xss : List (List α)} {j : Nat} {xs : List α} (w : W G0 G O H) (hk : O[k]? = some (L, cN xss)) (hj : xss[j]? = some xs) :
    ∃ (as : List Addr) (b : Addr) (vs : List V), H L = some (.lst (as.map V.ref)) ∧ as.length = xss.length ∧ as[j]? = some b ∧ H b = some (.lst vs) ∧ RpL G vs xs ∧ xs.length ≤ 1000000 ∧ ∀ (H2 G2 : Hp) (us : List V) (ys : List α), Ex H H2 → W G0 G2 O H2 → RpL G2 us ys → ys.length ≤ 1000000 → W G0 G2 (O.set k (L, cN (xss.set j ys))) (upd H2 b (.lst us)) := by
  obtain ⟨as, hl, w1⟩ := (w.front hk).unpack
  obtain ⟨_, o, hL, rfl, hn⟩ := w1.own (List.mem_cons_self ..)
  have hl2 : as.length = xss.length := by rw [hl, List.length_map]
  have hj2 : j < as.length := by
    rw [hl2]
    exact (List.getElem?_eq_some_iff.mp hj).1
  have hb : as[j]? = some as[j] := List.getElem?_eq_getElem hj2
  have hc : (xss.map cL)[j]? = some (cL xs) := by
    rw [List.getElem?_map, hj]
    rfl
  have hz : (as.zip (xss.map cL) ++ O.eraseIdx k)[j]? = some (as[j], cL xs) := by
    rw [List.getElem?_append_left (by rw [List.length_zip, ← hl]; omega)]
    exact zip_get hb hc
  obtain ⟨_, o, ho, vs, rfl, hr, hx⟩ := w1.own (List.mem_cons_of_mem _ (List.mem_of_getElem? hz))
  refine ⟨as, as[j], vs, hL, hl2, hb, ho, hr, hx, fun H2 G2 us ys eh w2 hu hy => ?_⟩
  obtain ⟨as', hl', w3⟩ := (w2.front hk).unpack
  obtain ⟨_, o', hL', rfl, _⟩ := w3.own (List.mem_cons_self ..)
  have e : as' = as := by
    have e1 := eh _ _ hL
    rw [hL'] at e1
    exact refs_inj (HO.lst.inj (Option.some.inj e1))
  subst e
  have w4 := w3.put (k := j + 1) (c' := cL1 ys) (o := .lst us) hz ⟨us, rfl, hu, hy⟩
  have e2 : ((L, (nN.c1 L as').c) :: (as'.zip (xss.map cL) ++ O.eraseIdx k)).set (j + 1) (as'[j], cL ys) = (L, (nN.c1 L as').c) :: (as'.zip ((xss.set j ys).map cL) ++ O.eraseIdx k) := by
    rw [List.set_cons_succ, List.set_append_left _ _ (by rw [List.length_zip, ← hl]; omega), zip_set hl hb, List.map_set]
  rw [e2] at w4
  have hk2 := (List.getElem?_eq_some_iff.mp hk).1
  exact (w4.pack (by rw [hl2, List.length_map, List.length_set])).perm (perm_back hk2)
end DL
end
section
namespace DL
open PySem PySem.Spec PyProof.Rows L2
open Rp (rp)
/-! ### values made of tuples alone -/
class Tp (α : Type) [Rp α] where
  tp : ∀ {G G' : Hp} {v : V} {x : α}, (∀ a xs, G a = some (.tup xs) → G' a = some (.tup xs)) → rp G v x → rp G' v x
instance : Tp Int := ⟨fun _ h => h⟩
instance : Tp Bool := ⟨fun _ h => h⟩
instance : Tp Str := ⟨fun _ h => h⟩
instance : Tp Unit := ⟨fun _ h => h⟩
instance {α : Type} [Rp α] [Tp α] : Tp (Option α) := ⟨fun {G G' v x} e h => by
  cases x with
  | none => exact h
  | some x => exact Tp.tp (α := α) e h⟩
instance {α : Type} [Rp α] [Tp α] : Tp (T1 α) := ⟨fun e ⟨t, v1, h, g, h1⟩ => ⟨t, v1, h, e _ _ g, Tp.tp e h1⟩⟩
instance {α β : Type} [Rp α] [Rp β] [Tp α] [Tp β] : Tp (T2 α β) := ⟨fun e ⟨t, v1, v2, h, g, h1, h2⟩ => ⟨t, v1, v2, h, e _ _ g, Tp.tp e h1, Tp.tp e h2⟩⟩
instance {α β γ : Type} [Rp α] [Rp β] [Rp γ] [Tp α] [Tp β] [Tp γ] : Tp (T3 α β γ) := ⟨fun e ⟨t, v1, v2, v3, h, g, h1, h2, h3⟩ => ⟨t, v1, v2, v3, h, e _ _ g, Tp.tp e h1, Tp.tp e h2, Tp.tp e h3⟩⟩
instance {α β γ δ : Type} [Rp α] [Rp β] [Rp γ] [Rp δ] [Tp α] [Tp β] [Tp γ] [Tp δ] : Tp (T4 α β γ δ) := ⟨fun e ⟨t, v1, v2, v3, v4, h, g, h1, h2, h3, h4⟩ => ⟨t, v1, v2, v3, v4, h, e _ _ g, Tp.tp e h1, Tp.tp e h2, Tp.tp e h3, Tp.tp e h4⟩⟩
theorem RpL_tp {α : Type} [Rp α] [Tp α] {G G' : Hp} (e : ∀ a xs, G a = some (HO.tup xs) → G' a = some (HO.tup xs)) : ∀ {vs : List V} {xs : List α}, RpL G vs xs → RpL G' vs xs
  | [], [], _ => trivial
  | _ :: _, _ :: _, ⟨h, t⟩ => ⟨Tp.tp e h, RpL_tp e t⟩
  | [], _ :: _, h => h.elim
  | _ :: _, [], h => h.elim
/-- what is frozen, and the tuples of another heap -/
def mixT (G G4 : Hp) : Hp := fun a => match G a with
  | some o => some o
  | none => match G4 a with
    | some (.tup xs) => some (.tup xs)
    | _ => none
theorem mixT_ex (G G4 : Hp) : Ex G (mixT G G4) := fun a o h => by
  unfold mixT
  rw [h]
theorem mixT_le {G G4 H4 : Hp} (e1 : Ex G H4) (e2 : Ex G4 H4) : Ex (mixT G G4) H4 := fun a o h => by
  unfold mixT at h
  cases g : G a with
  | some u => rw [g] at h; cases h; exact e1 _ _ g
  | none =>
    rw [g] at h
    simp only at h
    split at h
    · next xs k => cases h; exact e2 _ _ k
    · cases h
theorem mixT_tup {G H G4 : Hp} (e : Ex G H) (e4 : Ex H G4) : ∀ a xs, G4 a = some (.tup xs) → mixT G G4 a = some (.tup xs) := fun a xs h => by
  unfold mixT
  cases g : G a with
  | some u =>
    have k := e4 _ _ (e _ _ g)
    rw [h] at k
    cases k
    rfl
  | none => rw [h]
theorem W.thaw {G0 G G4 H H4 : Hp} {O : Own} (w : W G0 G O H) (e1 : Ex H G4) (e2 : Ex G4 H4) : W G0 (mixT G G4) O H4 := by
  obtain ⟨F, h1, h2⟩ := w.fp
  have eh : Ex H H4 := e1.trans e2
  refine ⟨w.base.trans (mixT_ex _ _), mixT_le (w.ex.trans eh) e2, ⟨F, fun a c m => ?_, h2⟩, w.nd⟩
  obtain ⟨k1, k2, k3⟩ := h1 a c m
  refine ⟨c.mono (mixT_ex _ _) k1, fun b => ?_, k3.trans eh⟩
  cases f : F a b with
  | none => exact .inr rfl
  | some u =>
    left
    have gb : G b = none := k2.ne (by rw [f]; exact Option.some_ne_none _)
    have g4 : G4 b = some u := e1 _ _ (k3 _ _ f)
    unfold mixT
    rw [gb, g4]
    cases u with
    | tup xs => exact absurd f (c.nt k1)
    | _ => rfl
section
variable {α β γ δ : Type} [Rp α] [Rp β] [Rp γ] [Rp δ] {K : PySem.W.Frag} {w : World} {τ τ1 τ2 τ3 τ4 : Env} {O O1 O2 O3 O' : Own} {ta tb tc te tl tp : TE} {t u : TT} {tr : TA} {d d' d1 d2 d3 : Dyn} {ds : List Dyn} {a b r : Int}
variable {G0 : Hp} {D : Ends} {tu tw : TS} {g : TG} {wi : TI} {R : VK} {c c' : Cell} {Kp Kq : Own → Prop} {cs : List Cell} {dd : List Addr → Dyn}
/-- a value that is reckoned without one's own things: they stay where they are -/
theorem ev_frame [Tp α] {x : α} (h : Ev te τ [] x []) {σ : L2.St} {G H : Hp} (s : Sl G σ τ) (w : W G0 G O H) {Q : VK} (q : ∀ (v : V) (G2 H2 : Hp), Ex G G2 → Ex H H2 → W G0 G2 O H2 → rp G2 v x → Q v H2) : te σ H Q :=
  h σ H H H (s.mono w.ex) (W.nil (Ex.refl _) (Ex.refl _)) Q fun v G4 H4 e4 w4 r4 =>
    q v (mixT G G4) H4 (mixT_ex _ _) (e4.trans w4.ex) (w.thaw e4 w4.ex) (Tp.tp (mixT_tup w.ex e4) r4)
/-! ### calls that read one's own things and leave them -/
def EvR (te : TE) (τ : Env) (O : Own) (d : Dyn) (O' : Own) (Kp : Own → Prop) : Prop := ∀ (σ : L2.St) (G0 G H : Hp), Sl G σ τ → W G0 G O H → ∀ Q : VK, (∀ (v : V) (G2 H2 : Hp), Ex G G2 → W G0 G2 O' H2 → (∀ (G0 G3 H3 : Hp) (O3 : Own), Ex G2 G3 → W G0 G3 O3 H3 → Kp O3 → d.P H3 v) → Q v H2) → te σ H Q
theorem er_fr (h : EvD te τ O d O') : EvR te τ O d O' KT := fun σ G0 G H s w Q q => h σ G0 G H s w _ fun v G2 H2 e2 w2 r2 => q v G2 H2 e2 w2 fun G0 G3 H3 O3 e3 w3 _ => d.mono (e3.trans w3.ex) r2
theorem er_ls {xs : List α} (h : EvLs te τ O xs O' Kp) : EvR te τ O (dy xs) O' Kp := fun σ G0 G H s w Q q => h σ G0 G H s w _ fun p G2 H2 e2 w2 st hl => q _ G2 H2 e2 w2 fun G0 G3 H3 O3 e3 w3 k => by
  obtain ⟨vs, h1, h2⟩ := st G0 G3 H3 O3 e3 w3 k
  exact ⟨p, vs, rfl, h1, h2.mono w3.ex, hl⟩
theorem kidsZ {G0 G H : Hp} {O : Own} : ∀ {as : List Addr} {xss : List (List α)}, as.length = (xss.map cL).length → W G0 G (as.zip (xss.map cL) ++ O) H → RpL H (as.map V.ref) xss
  | [], [], _, w => trivial
  | [], _ :: _, h, _ => by simp at h
  | _ :: _, [], h, _ => by simp at h
  | a :: as, xs :: xss, h, w => by
    have w1 : W G0 G ((a, cL xs) :: (as.zip (xss.map cL) ++ O)) H := w
    obtain ⟨_, o, ho, vs, rfl, hr, hl⟩ := w1.own (List.mem_cons_self ..)
    exact ⟨⟨a, vs, rfl, ho, hr.mono w.ex, hl⟩, kidsZ (by simpa using h) w1.drop⟩
theorem W.lookN {G0 G H : Hp} {O : Own} {L : Addr} {xss : List (List α)} (w : W G0 G ((L, cN xss) :: O) H) : ∃ vs, H L = some (.lst vs) ∧ RpL H vs xss ∧ xss.length ≤ 1000000 := by
  obtain ⟨as, hl, w1⟩ := w.unpack
  obtain ⟨_, o, ho, rfl, hn⟩ := w1.own (List.mem_cons_self ..)
  exact ⟨_, ho, kidsZ hl w1.drop, by rw [hl, List.length_map] at hn; exact hn⟩
theorem er_own {xs : List α} {l : Addr} (k : Nat) (h : EvD te τ O (dyA l) O1) (hk : O1[k]? = some (l, cL xs)) : EvR te τ O (dy xs) O1 (KO l (cL xs)) := fun σ G0 G H s w Q q => h σ G0 G H s w _ fun v G2 H2 e2 w2 r2 => by
  have r2 : v = .ref l := r2
  subst r2
  exact q _ G2 H2 e2 w2 fun G0 G3 H3 O3 e3 w3 ⟨k3, hk3⟩ => by
    obtain ⟨_, o, ho, vs, rfl, hr, hl⟩ := w3.get hk3
    exact ⟨l, vs, rfl, ho, hr.mono w3.ex, hl⟩
theorem er_ownN {xss : List (List α)} {l : Addr} (k : Nat) (h : EvD te τ O (dyA l) O1) (hk : O1[k]? = some (l, cN xss)) : EvR te τ O (dy xss) O1 (KO l (cN xss)) := fun σ G0 G H s w Q q => h σ G0 G H s w _ fun v G2 H2 e2 w2 r2 => by
  have r2 : v = .ref l := r2
  subst r2
  exact q _ G2 H2 e2 w2 fun G0 G3 H3 O3 e3 w3 ⟨k3, hk3⟩ => by
    obtain ⟨vs, ho, hr, hl⟩ := (w3.front hk3).lookN
    exact ⟨l, vs, rfl, ho, hr, hl⟩
def EvAR (ta : TA) (τ : Env) (O : Own) (ds : List Dyn) (O' : Own) (Kp : Own → Prop) : Prop := ∀ (σ : L2.St) (G0 G H : Hp), Sl G σ τ → W G0 G O H → ∀ Q : List V → Hp → Prop, (∀ (vs : List V) (G2 H2 : Hp), Ex G G2 → W G0 G2 O' H2 → (∀ (G0 G3 H3 : Hp) (O3 : Own), Ex G2 G3 → W G0 G3 O3 H3 → Kp O3 → Vs H3 vs ds) → Q vs H2) → ta σ H Q
theorem ear_nil : EvAR tNil τ O [] O KT := fun σ G0 G H s w Q q => q [] G H (Ex.refl _) w fun _ _ _ _ _ _ _ => trivial
theorem ear_cons (h : EvR te τ O d O1 Kp) (hr : EvAR tr τ O1 ds O2 Kq) : EvAR (tCons te tr) τ O (d :: ds) O2 (fun O => Kp O ∧ Kq O) := fun σ G0 G H s w Q q =>
  h σ G0 G H s w _ fun v G2 H2 e2 w2 r2 => hr σ G0 G2 H2 (s.mono e2) w2 _ fun vs G3 H3 e3 w3 r3 => q _ G3 H3 (e2.trans e3) w3 fun G0 G4 H4 O4 e4 w4 k => ⟨r2 G0 G4 H4 O4 (e3.trans e4) w4 k.1, r3 G0 G4 H4 O4 e4 w4 k.2⟩
theorem ev_callR {S : Spec} {E : XK} [Tp α] {x : α} (h : EvAR tr τ O ds O1 Kp) (hk : Kp O1) (hs : S ds [] (.fro (dy x)) []) : Ev (tCall (sp S) [] E tr) τ O x O1 := fun σ G0 G H s w Q q =>
  h σ G0 G H s w _ fun vs G2 H2 e2 w2 r2 => by
    rw [List.append_nil]
    exact ⟨H2, ds, [], .fro (dy x), [], r2 G0 G2 H2 O1 (Ex.refl _) w2 hk, W.nil (Ex.refl _) (Ex.refl _), hs, fun v G4 H4 w4 r4 => q v (mixT G2 G4) H4 (e2.trans (mixT_ex _ _)) (w2.thaw w4.base w4.ex) (Tp.tp (mixT_tup w2.ex w4.base) r4)⟩
theorem W.thaw1 {G0 G G4 H H4 : Hp} {O : Own} {l : Addr} {c : Cell1} (w : W G0 G O H) (w4 : W H G4 [(l, c.c)] H4) (hm : ∀ o, c.P G4 o → c.P (mixT G G4) o) : W G0 (mixT G G4) ((l, c.c) :: O) H4 := by
  obtain ⟨gl, o, ho, hp⟩ := w4.own (List.mem_cons_self ..)
  have hl : H l = none := w4.base.none gl
  have w5 := w.thaw w4.base w4.ex
  have w6 : W G0 (mixT G G4) O H4 := w5
  have np : ∀ a d, (a, d) ∈ O → a ≠ l := fun a d m e => (w.here m).2 (e ▸ hl)
  obtain ⟨F, h1, h2⟩ := w.fp
  have fl : ∀ a d, (a, d) ∈ O → F a l = none := fun a d m => (h1 a d m).2.2.none hl
  obtain ⟨F5, k1, k2⟩ := w5.fp
  have gl5 : mixT G G4 l = none := by
    unfold mixT
    rw [w.ex.none hl, gl]
  have eh : Ex H H4 := w4.base.trans w4.ex
  refine ⟨w5.base, w5.ex, ⟨fun a => if a = l then sgl l o else F a, fun a d m => ?_, fun a d b d' m m' ne => ?_⟩, ?_⟩
  · rcases List.mem_cons.mp m with e | m
    · cases e
      simp only [if_true]
      exact ⟨⟨o, rfl, hm o hp⟩, Dj.sgl gl5, sgl_ex ho⟩
    · simp only [if_neg (np a d m)]
      obtain ⟨k1, k2, k3⟩ := h1 a d m
      refine ⟨d.mono (mixT_ex _ _) k1, fun b => ?_, k3.trans eh⟩
      cases f : F a b with
      | none => exact .inr rfl
      | some u =>
        left
        have gb : G b = none := k2.ne (by rw [f]; exact Option.some_ne_none _)
        have g4 : G4 b = some u := w4.base _ _ (k3 _ _ f)
        unfold mixT
        rw [gb, g4]
        cases u with
        | tup xs => exact absurd f (d.nt k1)
        | _ => rfl
  · rcases List.mem_cons.mp m with e | m
    · cases e
      rcases List.mem_cons.mp m' with e' | m'
      · cases e'
        exact absurd rfl ne
      · simp only [if_true, if_neg (np b d' m')]
        exact (Dj.sgl (fl b d' m')).symm
    · rcases List.mem_cons.mp m' with e' | m'
      · cases e'
        simp only [if_true, if_neg (np a d m)]
        exact Dj.sgl (fl a d m)
      · simp only [if_neg (np a d m), if_neg (np b d' m')]
        exact h2 a d b d' m m' ne
  · rw [List.map_cons, List.nodup_cons]
    refine ⟨fun m => ?_, w.nd⟩
    obtain ⟨c, m⟩ := mem_fst m
    exact np l c m rfl
theorem ec_callR {S : Spec} {E : XK} [Tp α] {xs : List α} (h : EvAR tr τ O ds O1 Kp) (hk : Kp O1) (hs : S ds [] (.new (cL xs)) []) : EvN (tCall (sp S) [] E tr) τ O xs O1 := fun σ G0 G H s w Q q =>
  h σ G0 G H s w _ fun vs G2 H2 e2 w2 r2 => by
    rw [List.append_nil]
    exact ⟨H2, ds, [], .new (cL xs), [], r2 G0 G2 H2 O1 (Ex.refl _) w2 hk, W.nil (Ex.refl _) (Ex.refl _), hs, fun l G4 H4 w4 => q l (mixT G2 G4) H4 (e2.trans (mixT_ex _ _)) (w2.thaw1 w4 fun o ⟨vs, e, hr, hl⟩ => ⟨vs, e, RpL_tp (mixT_tup w2.ex w4.base) hr, hl⟩)⟩
/-! ### lists by a path -/
theorem ev_own {i : Nat} {l : Addr} (hi : τ[i]? = some (some (dyA l))) : EvD (tVar i) τ O (dyA l) O := ev_var hi
theorem ls_ownP {xs : List α} {l : Addr} (k : Nat) (h : EvD te τ O (dyA l) O1) (hk : O1[k]? = some (l, cL xs)) : EvLs te τ O xs O1 (KO l (cL xs)) := fun σ G0 G H s w Q q => h σ G0 G H s w _ fun v G2 H2 e2 w2 r2 => by
  have r2 : v = .ref l := r2
  subst r2
  obtain ⟨_, o, ho, vs, rfl, hr, hl⟩ := w2.get hk
  exact q l G2 H2 e2 w2 (fun G0 G3 H3 O3 e3 w3 ⟨k3, hk3⟩ => by
    obtain ⟨_, o, ho, vs, rfl, hr, hl⟩ := w3.get hk3
    exact ⟨vs, ho, hr⟩) hl
theorem nx_appP {l : Addr} {xs xs0 ys : List α} {x : α} (k : Nat) (hp : EvD tp τ O (dyA l) O1) (hk0 : O1[k]? = some (l, cL xs0)) (h : Ev te τ O1 x O2) (hk : O2[k]? = some (l, cL xs)) (hz : appO xs x = some ys) (q : Nx G0 D.nx τ (O2.set k (l, cL ys))) :
    Nx G0 (tDrop (tBM K "list" rAppend tp (tCons te tNil)) D) τ O := fun σ G H s w => by
  obtain ⟨rfl, hl⟩ := appO_ok hz
  refine hp σ G0 G H s w _ fun v G1 H1 e1 w1 r1 => ?_
  have r1 : v = .ref l := r1
  subst r1
  obtain ⟨_, o, ho, vs, rfl, _, _⟩ := w1.get hk0
  refine ⟨.inl ⟨rfl, vs, .inl (.inl ho)⟩, h σ G0 G1 H1 (s.mono e1) w1 _ fun v G2 H2 e2 w2 r2 => ?_⟩
  obtain ⟨_, o2, ho2, us, rfl, hr, _⟩ := w2.get hk
  refine ⟨l, us, v, rfl, rfl, ho2, Nat.lt_of_lt_of_le (by rw [hr.length]; exact hl) (by decide), ?_⟩
  refine q σ G2 _ ((s.mono e1).mono e2) (w2.put (c' := cL1 (xs ++ [x])) hk ⟨_, rfl, hr.append ⟨r2, trivial⟩, ?_⟩)
  rw [List.length_append]
  show xs.length + 1 ≤ 1000000
  omega
/-- xss[n].append(e) -/
theorem nx_appN [Tp α] {l : Addr} {xss yss : List (List α)} {x : α} {n : Int} (k : Nat) (hp : EvD tp τ O (dyA l) O1) (hb : Ev tb τ O1 n O2) (hk : O2[k]? = some (l, cN xss)) (h : Ev te τ [] x []) (hz : appNO xss n x = some yss) (q : Nx G0 D.nx τ (O2.set k (l, cN yss))) :
    Nx G0 (tDrop (tBM K "list" rAppend (tOp (rIxL K) tp tb) (tCons te tNil)) D) τ O := fun σ G H s w => by
  obtain ⟨j, hj, hz⟩ := bE hz
  obtain ⟨xs, hx, hz⟩ := bE hz
  obtain ⟨ys, hy, rfl⟩ := mE hz
  obtain ⟨rfl, hl⟩ := appO_ok hy
  refine hp σ G0 G H s w _ fun v G1 H1 e1 w1 r1 => hb σ G0 G1 H1 (s.mono e1) w1 _ fun v2 G2 H2 e2 w2 r2 => ?_
  have r1 : v = .ref l := r1
  subst r1
  obtain ⟨as, p, vs, hL, hla, hp, ho, hr, hx6, back⟩ := w2.kid hk hx
  refine ⟨l, _, n, .ref p, rfl, r2, .inl (.inl hL), ?_, .inl ⟨rfl, vs, .inl (.inl ho)⟩, ?_⟩
  · unfold atI
    rw [List.length_map, hla, show ixN xss.length n = some j from hj]
    show (as.map V.ref)[j]? = _
    rw [List.getElem?_map, hp]
    rfl
  · refine ev_frame h ((s.mono e1).mono e2) w2 fun v G3 H3 e3 eh w3 r3 => ?_
    refine ⟨p, vs, v, rfl, rfl, eh _ _ ho, Nat.lt_of_lt_of_le (by rw [hr.length]; exact hl) (by decide), ?_⟩
    refine q σ G3 _ (((s.mono e1).mono e2).mono e3) (back H3 G3 _ _ eh w3 ((hr.mono e3).append ⟨r3, trivial⟩) ?_)
    rw [List.length_append]
    show xs.length + 1 ≤ 1000000
    omega
/-- xss.append(xs), a list of one's own -/
theorem nx_push {l : Addr} {xss yss : List (List α)} {ys : List α} (k : Nat) (hp : EvD tp τ O (dyA l) O1) {xss0 : List (List α)} (hk0 : O1[k]? = some (l, cN xss0)) (h : EvN te τ O1 ys O2) (hk : O2[k]? = some (l, cN xss)) (hz : appO xss ys = some yss) (q : Nx G0 D.nx τ (O2.set k (l, cN yss))) :
    Nx G0 (tDrop (tBM K "list" rAppend tp (tCons te tNil)) D) τ O := fun σ G H s w => by
  obtain ⟨rfl, hl⟩ := appO_ok hz
  refine hp σ G0 G H s w _ fun v G1 H1 e1 w1 r1 => ?_
  have r1 : v = .ref l := r1
  subst r1
  obtain ⟨vs, ho, _, _⟩ := (w1.front hk0).lookN
  refine ⟨.inl ⟨rfl, vs, .inl (.inl ho)⟩, h σ G0 G1 H1 (s.mono e1) w1 _ fun b G2 H2 e2 w2 => ?_⟩
  have hk' : ((b, cL ys) :: O2)[k + 1]? = some (l, cN xss) := hk
  have w3 : W G0 G2 ((b, cL ys) :: (l, cN xss) :: O2.eraseIdx k) H2 := (w2.front hk').perm (List.Perm.swap _ _ _)
  obtain ⟨as, hL, hla, fin⟩ := w3.push
  have hlt : as.length < 1000000 := by rw [hla, List.length_map]; exact hl
  refine ⟨l, _, .ref b, rfl, rfl, hL, Nat.lt_of_lt_of_le (by rw [List.length_map]; exact hlt) (by decide), ?_⟩
  refine q σ G2 _ ((s.mono e1).mono e2) ?_
  have w4 := fin hlt
  have e4 : xss.map cL ++ [cL ys] = (xss ++ [ys]).map cL := by rw [List.map_append]; rfl
  rw [e4] at w4
  exact w4.perm (perm_back (List.getElem?_eq_some_iff.mp hk).1)
theorem nx_freezeN {N : L2.St → Hp → Prop} {i k : Nat} {l : Addr} {xs : List (List α)} (hi : τ[i]? = some (some (dyA l))) (hk : O[k]? = some (l, cN xs)) (h : Nx G0 N (τ.set i (some (dy xs))) (O.eraseIdx k)) : Nx G0 N τ O := fun σ G H s w => by
  obtain ⟨G2, e, w2, r⟩ := (w.front hk).freezeN
  obtain ⟨v, hv, hd⟩ := s.get hi
  have hd : v = .ref l := hd
  subst hd
  have s2 := (s.mono e).set (d := dy xs) r i
  have e2 : σ.set i (some (.ref l)) = σ := by
    apply List.ext_getElem?
    intro j
    by_cases ej : i = j
    · subst ej
      rw [List.getElem?_set_self (List.getElem?_eq_some_iff.mp hv).1, hv]
    · rw [List.getElem?_set_ne ej]
  rw [e2] at s2
  exact h σ G2 H s2 w2
theorem EvC.frN {xs : List (List α)} (h : EvC te τ O (cN xs) O') : Ev te τ O xs O' := fun σ G0 G H s w Q q => h σ G0 G H s w Q fun l G2 H2 e w2 => by
  obtain ⟨G3, e3, w3, r⟩ := w2.freezeN
  exact q _ G3 H2 (e.trans e3) w3 r
/-! ### comprehensions whose items are one's own -/
def ElC {α : Type} [Rp α] (g : TG) (tt : TT) (te : TE) (τ : Env) (ws : List Nat) (O : Own) {β : Type} [Rp β] (x : α) (o : Option (List β)) (O' : Own) : Prop :=
  ∃ τ' us b Ot, Tgt g x τ τ' us ∧ (∀ i ∈ us, i ∈ ws) ∧ EvT tt τ' O b Ot ∧ (b = true → ∃ y, o = some y ∧ EvN te τ' Ot y O') ∧ (b = false → o = none ∧ Ot = O')
theorem ec_lcN {σ : Type} {xs : List α} {s0 s1 : σ} {OI : σ → Own} {f : α → σ → Option (Option (List β) × σ)} {ys : List (List β)} {tt : TT} {ws : List Nat} (hm : filS xs s0 f = some (ys, s1)) (hw : Wk wi τ O xs (OI s0) Kp) (hk : ∀ s p, Kp (p :: OI s))
    (hb : ∀ (p : Addr × Cell) x s o s', x ∈ xs → f x s = some (o, s') → ElC g tt te (wipeT τ ws) ws (p :: OI s) x o (p :: OI s')) : EvC (tLc wi g tt te ws) τ O (cN ys) (OI s1) := fun σ G0 G H s w Q q =>
  hw σ G0 G H s w _ fun J G2 H2 e2 w2 ok hl L hL => by
    have e02 : Ex G0 G2 := w2.base
    refine ⟨fun i m H' => m = xs.length - i ∧ i ≤ xs.length ∧ ∃ s G' acc zs, W G2 G' ((L, cN (acc : List (List β))) :: OI s) H' ∧ filS (xs.drop i) s f = some (zs, s1) ∧ acc ++ zs = ys ∧ acc.length ≤ i, ⟨xs.length, by omega, by omega, s0, G2, [], ys, ?_, by rw [List.drop_zero]; exact hm, rfl, Nat.le_refl _⟩, ?_⟩
    · exact W.pack (n := nN) (as := []) (cs := []) rfl ((w2.start).alloc (c := nN.c1 L []) hL ⟨rfl, Nat.zero_le _⟩)
    rintro i m H' ⟨rfl, hi, s', G', acc, zs, w', hf, hz, ha⟩
    have sl : Sl G' σ τ := (s.mono e2).mono w'.base
    by_cases hlt : i < xs.length
    · have hx : xs[i]? = some xs[i] := List.getElem?_eq_getElem hlt
      have hd : xs.drop i = xs[i] :: xs.drop (i + 1) := List.drop_eq_getElem_cons hlt
      rw [hd] at hf
      obtain ⟨o, s2, zs2, h1, h2, rfl⟩ := filS_cons hf
      obtain ⟨go, yld⟩ := (ok G2 G' H' _ i w'.base w' (hk s' _)).1 _ hx
      refine .inr ⟨go, fun H' => ∃ s G' acc zs, W G2 G' ((L, cN (acc : List (List β))) :: OI s) H' ∧ filS (xs.drop (i + 1)) s f = some (zs, s1) ∧ acc ++ zs = ys ∧ acc.length ≤ i + 1, fun H3 h3 => ⟨xs.length - (i + 1), by omega, rfl, hlt, h3⟩, fun v H3 hy => ?_⟩
      obtain ⟨G3, e3, w3, r3⟩ := yld v H3 hy
      obtain ⟨τ', us, b, Ot, ht, hu, et, b1, b0⟩ := hb (L, cN acc) xs[i] s' o s2 (List.getElem_mem hlt) h1
      refine ht (L2.wipe σ ws) G3 H3 v _ w3.ex ((sl.mono e3).wipe ws) r3 fun σ4 s4 hwp => ⟨?_, ?_⟩
      · rw [hwp ws hu]
        exact wipe_wipe σ ws
      refine et σ4 G2 G3 H3 s4 w3 _ fun G4 H4 e4 w4 => ?_
      cases b with
      | true =>
        obtain ⟨y, rfl, he⟩ := b1 rfl
        refine (show te σ4 H4 _ from he σ4 G2 G4 H4 (s4.mono e4) w4 _ fun v5 G5 H5 e5 w5 => ?_)
        obtain ⟨as, hL5, hla, fin⟩ := w5.push
        have hlt5 : as.length < 1000000 := by
          rw [hla, List.length_map]
          omega
        refine ⟨_, hL5, Nat.lt_of_lt_of_le (by rw [List.length_map]; exact hlt5) (by decide), s2, G5, acc ++ [y], zs2, ?_, h2, ?_, ?_⟩
        · have w6 := fin hlt5
          have e6 : acc.map cL ++ [cL y] = (acc ++ [y]).map cL := by rw [List.map_append]; rfl
          rw [e6] at w6
          exact w6
        · rw [← hz]
          simp
        · rw [List.length_append]
          show acc.length + 1 ≤ i + 1
          omega
      | false =>
        obtain ⟨rfl, rfl⟩ := b0 rfl
        exact ⟨s2, G4, acc, zs2, w4, h2, by rw [← hz]; rfl, by omega⟩
    · have ei : i = xs.length := by omega
      subst ei
      rw [List.drop_length] at hf
      cases hf
      rw [List.append_nil] at hz
      subst hz
      exact .inl ⟨(ok G2 G' H' _ _ w'.base w' (hk _ _)).2 (Nat.le_refl _), q L G' H' (e2.trans w'.base) (w'.up e02)⟩
def ElTC {α : Type} [Rp α] (g : TG) (te : TE) (τ : Env) (ws : List Nat) (O : Own) {β : Type} [Rp β] (x : α) (y : List β) (O' : Own) : Prop :=
  ∃ τ' us, Tgt g x τ τ' us ∧ (∀ i ∈ us, i ∈ ws) ∧ EvN te τ' O y O'
theorem ec_mapSN {σ : Type} {xs : List α} {s0 s1 : σ} {OI : σ → Own} {f : α → σ → Option (List β × σ)} {ys : List (List β)} {ws : List Nat} (hm : mapS xs s0 f = some (ys, s1)) (hw : Wk wi τ O xs (OI s0) Kp) (hk : ∀ s p, Kp (p :: OI s))
    (hb : ∀ (p : Addr × Cell) x s y s', x ∈ xs → f x s = some (y, s') → ElTC g te (wipeT τ ws) ws (p :: OI s) x y (p :: OI s')) : EvC (tLc wi g tYes te ws) τ O (cN ys) (OI s1) :=
  ec_lcN (filS_map hm) hw hk fun p x s o s' hx h => by
    obtain ⟨q, h1, h2⟩ := mE h
    cases h2
    obtain ⟨τ', us, ht, hu, he⟩ := hb p x s q.1 q.2 hx h1
    exact ⟨τ', us, true, _, ht, hu, et_yes, fun _ => ⟨q.1, rfl, he⟩, fun z => by cases z⟩
theorem ec_filON {xs : List α} {f : α → Option (Option (List β))} {ys : List (List β)} {tt : TT} {ws : List Nat} (hm : filO xs f = some ys) (hw : Wk wi τ O xs O' Kp) (hk : ∀ p, Kp (p :: O'))
    (hb : ∀ (p : Addr × Cell) x o, x ∈ xs → f x = some o → ElC g tt te (wipeT τ ws) ws (p :: O') x o (p :: O')) : EvC (tLc wi g tt te ws) τ O (cN ys) O' :=
  ec_lcN (OI := fun _ : Unit => O') (filS_filO hm) hw (fun _ p => hk p) fun p x s o s' hx h => by
    obtain ⟨q, h1, h2⟩ := mE h
    have e1 := congrArg Prod.fst h2
    have e1 : q = o := e1
    subst e1
    exact hb p x q hx h1
theorem ec_mapON {xs : List α} {f : α → Option (List β)} {ys : List (List β)} {ws : List Nat} (hm : mapO xs f = some ys) (hw : Wk wi τ O xs O' Kp) (hk : ∀ p, Kp (p :: O'))
    (hb : ∀ (p : Addr × Cell) x y, x ∈ xs → f x = some y → ElTC g te (wipeT τ ws) ws (p :: O') x y (p :: O')) : EvC (tLc wi g tYes te ws) τ O (cN ys) O' :=
  ec_lcN (OI := fun _ : Unit => O') (filS_mapO hm) hw (fun _ p => hk p) fun p x s o s' hx h => by
    obtain ⟨q, h1, h2⟩ := mE h
    cases h2
    obtain ⟨τ', us, ht, hu, he⟩ := hb p x q hx h1
    exact ⟨τ', us, true, _, ht, hu, et_yes, fun _ => ⟨q, rfl, he⟩, fun z => by cases z⟩
end
end DL
end
section
namespace DL
open PySem PySem.Spec PyProof.Rows L2
open Rp (rp)
open Dt (toD)
/-! ### tuples of one's own things -/
def dyT2 (d1 d2 : Dyn) : Dyn := ⟨fun G v => ∃ t v1 v2, v = .ref t ∧ G t = some (.tup [v1, v2]) ∧ d1.P G v1 ∧ d2.P G v2, fun e ⟨t, v1, v2, h, g, h1, h2⟩ => ⟨t, v1, v2, h, e _ _ g, d1.mono e h1, d2.mono e h2⟩⟩
def dyT3 (d1 d2 d3 : Dyn) : Dyn := ⟨fun G v => ∃ t v1 v2 v3, v = .ref t ∧ G t = some (.tup [v1, v2, v3]) ∧ d1.P G v1 ∧ d2.P G v2 ∧ d3.P G v3, fun e ⟨t, v1, v2, v3, h, g, h1, h2, h3⟩ => ⟨t, v1, v2, v3, h, e _ _ g, d1.mono e h1, d2.mono e h2, d3.mono e h3⟩⟩
section
variable {α β γ δ : Type} [Rp α] [Rp β] [Rp γ] [Rp δ] {K : PySem.W.Frag} {w : World} {τ τ1 τ2 τ3 τ4 : Env} {O O1 O2 O3 O' : Own} {ta tb tc te tl tp : TE} {t u : TT} {tr : TA} {d d' d1 d2 d3 : Dyn} {ds : List Dyn} {a b r : Int}
variable {G0 : Hp} {D : Ends} {tu tw : TS} {g g1 g2 g3 : TG} {wi : TI} {R : VK} {c c' : Cell} {Kp Kq : Own → Prop} {cs : List Cell} {dd : List Addr → Dyn}
def EvU (te : TE) (τ : Env) (O : Own) (cs : List Cell) (dd : List Addr → Dyn) (O' : Own) : Prop := ∀ (σ : L2.St) (G0 G H : Hp), Sl G σ τ → W G0 G O H → ∀ Q : VK, (∀ (as : List Addr) (v : V) (G2 H2 : Hp), as.length = cs.length → Ex G G2 → W G0 G2 (as.zip cs ++ O') H2 → (dd as).P G2 v → Q v H2) → te σ H Q
theorem eo_call {S : Spec} {E : XK} (h : EvA tr τ O ds O1) (hs : S ds O1 (.own cs dd) O2) : EvU (tCall (sp S) [] E tr) τ O cs dd O2 := fun σ G0 G H s w Q q =>
  h σ G0 G H s w _ fun vs G2 H2 e2 w2 r2 => by
    rw [List.append_nil]
    exact ⟨G2, ds, O1, .own cs dd, O2, r2, w2.start, hs, fun as v G3 H3 hl w3 r3 => q as v G3 H3 hl (e2.trans w3.base) (w2.back w3) r3⟩
theorem eo_callK {S : Spec} {E : XK} {B : Addr} (k : Nat) (h : EvA tr τ O ds O1) (hk : O1[k]? = some (B, c)) (hs : S ds ((B, c) :: O1.eraseIdx k) (.own cs dd) ((B, c') :: O1.eraseIdx k)) : EvU (tCall (sp S) [] E tr) τ O cs dd (O1.set k (B, c')) := fun σ G0 G H s w Q q =>
  h σ G0 G H s w _ fun vs G2 H2 e2 w2 r2 => by
    rw [List.append_nil]
    exact ⟨G2, ds, _, .own cs dd, _, r2, (w2.perm (perm_front hk).symm).start, hs, fun as v G3 H3 hl w3 r3 => q as v G3 H3 hl (e2.trans w3.base) ((w2.back w3).perm ((perm_back (List.getElem?_eq_some_iff.mp hk).1).append_left _)) r3⟩
def TgtD (g : TG) (d : Dyn) (τ τ' : Env) (ws : List Nat) : Prop := ∀ (σ : L2.St) (G H : Hp) (v : V) (N : L2.St → Hp → Prop), Ex G H → Sl G σ τ → d.P G v → (∀ σ', Sl G σ' τ' → (∀ vs, (∀ i ∈ ws, i ∈ vs) → L2.wipe σ' vs = L2.wipe σ vs) → N σ' H) → g v σ H N
theorem td_name {i : Nat} : TgtD (gName i) d τ (τ.set i (some d)) [i] := fun σ G H v N e s r q => q _ (s.set r i) fun vs h => wipe_set (h i (List.mem_singleton.mpr rfl))
theorem td_fr {x : α} {ws : List Nat} (h : Tgt g x τ τ1 ws) : TgtD g (dy x) τ τ1 ws := h
theorem td_2 {w1 w2 : List Nat} (h1 : TgtD g1 d1 τ τ1 w1) (h2 : TgtD g2 d2 τ1 τ2 w2) : TgtD (gTup K 2 (gCons g1 (gCons g2 gNil))) (dyT2 d1 d2) τ τ2 (w1 ++ w2) := fun σ G H v N e s ⟨t, v1, v2, h, g, r1, r2⟩ q =>
  ⟨t, [v1, v2], h, .inl (.inl (e _ _ g)), rfl, v1, [v2], rfl, h1 σ G H v1 _ e s r1 fun σ1 s1 k1 => ⟨v2, [], rfl, h2 σ1 G H v2 _ e s1 r2 fun σ2 s2 k2 => ⟨rfl, q σ2 s2 fun vs hv => (k2 vs fun i hi => hv i (List.mem_append_right _ hi)).trans (k1 vs fun i hi => hv i (List.mem_append_left _ hi))⟩⟩⟩
theorem td_3 {w1 w2 w3 : List Nat} (h1 : TgtD g1 d1 τ τ1 w1) (h2 : TgtD g2 d2 τ1 τ2 w2) (h3 : TgtD g3 d3 τ2 τ3 w3) : TgtD (gTup K 3 (gCons g1 (gCons g2 (gCons g3 gNil)))) (dyT3 d1 d2 d3) τ τ3 (w1 ++ (w2 ++ w3)) := fun σ G H v N e s ⟨t, v1, v2, v3, h, g, r1, r2, r3⟩ q =>
  ⟨t, [v1, v2, v3], h, .inl (.inl (e _ _ g)), rfl, v1, [v2, v3], rfl, h1 σ G H v1 _ e s r1 fun σ1 s1 k1 => ⟨v2, [v3], rfl, h2 σ1 G H v2 _ e s1 r2 fun σ2 s2 k2 => ⟨v3, [], rfl, h3 σ2 G H v3 _ e s2 r3 fun σ3 s3 k3 => ⟨rfl, q σ3 s3 fun vs hv =>
    ((k3 vs fun i hi => hv i (List.mem_append_right _ (List.mem_append_right _ hi))).trans (k2 vs fun i hi => hv i (List.mem_append_right _ (List.mem_append_left _ hi)))).trans (k1 vs fun i hi => hv i (List.mem_append_left _ hi))⟩⟩⟩⟩
theorem nx_asgO (h : EvU te τ O cs dd O') (k : ∀ as : List Addr, as.length = cs.length → ∃ τ1 ws, TgtD g (dd as) τ τ1 ws ∧ Nx G0 D.nx τ1 (as.zip cs ++ O')) : Nx G0 (tAsg te g D) τ O := fun σ G H s w =>
  h σ G0 G H s w _ fun as v G2 H2 hl e2 w2 r2 => by
    obtain ⟨τ1, ws, hg, kk⟩ := k as hl
    exact hg σ G2 H2 v _ w2.ex (s.mono e2) r2 fun σ' s' _ => kk σ' G2 H2 s' w2
theorem len1 {as : List Addr} (h : as.length = [c].length) : ∃ a, as = [a] := match as, h with
  | [a], _ => ⟨a, rfl⟩
theorem len2 {c1 c2 : Cell} {as : List Addr} (h : as.length = [c1, c2].length) : ∃ a b, as = [a, b] := match as, h with
  | [a, b], _ => ⟨a, b, rfl⟩
theorem len3 {c1 c2 c3 : Cell} {as : List Addr} (h : as.length = [c1, c2, c3].length) : ∃ a b c, as = [a, b, c] := match as, h with
  | [a, b, c], _ => ⟨a, b, c, rfl⟩
theorem RtO.at (h : RtO G0 R cs dd O) (as : List Addr) (hl : as.length = cs.length := by rfl) : RtD G0 R (dd as) (as.zip cs ++ O) := fun v G H w r => h as v G H hl w r
theorem RtD.front {k : Nat} {p : Addr × Cell} (hk : O[k]? = some p) (h : RtD G0 R d (p :: O.eraseIdx k)) : RtD G0 R d O := fun v G H w r => h v G H (w.front hk) r
theorem RtD.erase {k : Nat} {p : Addr × Cell} (hk : O[k]? = some p) (h : RtD G0 R d (O.eraseIdx k)) : RtD G0 R d O := fun v G H w r => h v G H (w.front hk).drop r
theorem RtO.up {G1 : Hp} (e : Ex G0 G1) (h : RtO G0 R cs dd O) : RtO G1 R cs dd O := fun as v G H hl w r => h as v G H hl (w.up e) r
theorem RtO.drop {p : Addr × Cell} (h : RtO G0 R cs dd O) : RtO G0 R cs dd (p :: O) := fun as v G H hl w r => h as v G H hl ((w.perm List.perm_middle).drop) r
theorem ed_tup2 (h : EvA tr τ O [d1, d2] O1) : EvD (tTup tr) τ O (dyT2 d1 d2) O1 := fun σ G0 G H s w Q q =>
  h σ G0 G H s w _ fun vs G2 H2 e2 w2 r2 => match vs, r2 with
    | [v1, v2], ⟨r1, r3, _⟩ => ⟨by show 2 ≤ sizeLine; decide, fun p hp => by
      obtain ⟨e3, w3⟩ := w2.grow (o := .tup [v1, v2]) hp
      exact q _ _ _ (e2.trans e3) w3 ⟨p, v1, v2, rfl, upd_same, d1.mono e3 r1, d2.mono e3 r3⟩⟩
theorem ed_tup3 (h : EvA tr τ O [d1, d2, d3] O1) : EvD (tTup tr) τ O (dyT3 d1 d2 d3) O1 := fun σ G0 G H s w Q q =>
  h σ G0 G H s w _ fun vs G2 H2 e2 w2 r2 => match vs, r2 with
    | [v1, v2, v3], ⟨r1, r3, r4, _⟩ => ⟨by show 3 ≤ sizeLine; decide, fun p hp => by
      obtain ⟨e3, w3⟩ := w2.grow (o := .tup [v1, v2, v3]) hp
      exact q _ _ _ (e2.trans e3) w3 ⟨p, v1, v2, v3, rfl, upd_same, d1.mono e3 r1, d2.mono e3 r3, d3.mono e3 r4⟩⟩
theorem ed_t {n : Int} (ha : EvD ta τ O d O1) (h : ∀ (G : Hp) (v : V), d.P G v → ∃ t vs u, v = .ref t ∧ G t = some (.tup vs) ∧ atI vs n = some u ∧ d'.P G u) : EvD (tOp (rIxT K) ta (tC (.int n))) τ O d' O1 := fun σ G0 G H s w Q q =>
  ha σ G0 G H s w _ fun v G2 H2 e2 w2 r2 => by
    obtain ⟨t, vs, u, h1, h2, h3, h4⟩ := h G2 v r2
    exact ⟨t, vs, n, u, h1, rfl, .inl (.inl (w2.ex _ _ h2)), h3, q _ G2 H2 e2 w2 h4⟩
theorem ed_t20 (ha : EvD ta τ O (dyT2 d1 d2) O1) : EvD (tOp (rIxT K) ta (tC (.int 0))) τ O d1 O1 := ed_t ha fun G v ⟨t, v1, v2, h, g, h1, h2⟩ => ⟨t, _, v1, h, g, rfl, h1⟩
theorem ed_t21 (ha : EvD ta τ O (dyT2 d1 d2) O1) : EvD (tOp (rIxT K) ta (tC (.int 1))) τ O d2 O1 := ed_t ha fun G v ⟨t, v1, v2, h, g, h1, h2⟩ => ⟨t, _, v2, h, g, rfl, h2⟩
theorem ed_t30 (ha : EvD ta τ O (dyT3 d1 d2 d3) O1) : EvD (tOp (rIxT K) ta (tC (.int 0))) τ O d1 O1 := ed_t ha fun G v ⟨t, v1, v2, v3, h, g, h1, h2, h3⟩ => ⟨t, _, v1, h, g, rfl, h1⟩
theorem ed_t31 (ha : EvD ta τ O (dyT3 d1 d2 d3) O1) : EvD (tOp (rIxT K) ta (tC (.int 1))) τ O d2 O1 := ed_t ha fun G v ⟨t, v1, v2, v3, h, g, h1, h2, h3⟩ => ⟨t, _, v2, h, g, rfl, h2⟩
theorem ed_t32 (ha : EvD ta τ O (dyT3 d1 d2 d3) O1) : EvD (tOp (rIxT K) ta (tC (.int 2))) τ O d3 O1 := ed_t ha fun G v ⟨t, v1, v2, v3, h, g, h1, h2, h3⟩ => ⟨t, _, v3, h, g, rfl, h3⟩
/-! ### data that == compares, by whatever it is one's own -/
def Dd (d : Dyn) (p : PyData) (n : Nat) (Kp : Own → Prop) : Prop := ∀ {G0 G H : Hp} {O : Own} {v : V}, W G0 G O H → Kp O → d.P G v → PdR H v p ∧ p.canLay0 = true ∧ p.depth ≤ n
theorem dd_fr [Dt α] [Dl α] {x : α} : Dd (dy x) (toD x) (Dt.dn α) KT := fun w _ r => ⟨PdR.ex w.ex (Dl.pd r), (Dt.sh (α := α) r).1, (Dt.sh (α := α) r).2⟩
theorem dd_own [Dt α] [Dl α] {xs : List α} {l : Addr} : Dd (dyA l) (toD xs) (Dt.dn α + 1) (KO l (cL xs)) := fun {G0 G H O v} w ⟨k, hk⟩ r => by
  have r : v = .ref l := r
  subst r
  obtain ⟨_, o, ho, vs, rfl, hr, hl⟩ := w.get hk
  obtain ⟨k1, k2⟩ := shAll hr
  exact ⟨.lst ho (PdA.ex w.ex (pdAll hr)) (by rw [List.length_map]; exact hl), by show PyData.canLay0 (.list _) = true; rw [PyData.canLay0]; exact k1, by show PyData.depth (.list _) ≤ _; rw [PyData.depth]; omega⟩
theorem dd_ownN [Dt α] [Dl α] {xss : List (List α)} {l : Addr} : Dd (dyA l) (toD xss) (Dt.dn α + 2) (KO l (cN xss)) := fun {G0 G H O v} w ⟨k, hk⟩ r => by
  have r : v = .ref l := r
  subst r
  obtain ⟨vs, ho, hr, hl⟩ := (w.front hk).lookN
  obtain ⟨k1, k2⟩ := shAll hr
  have k2 : PyData.depthAll (xss.map toD) ≤ Dt.dn α + 1 := k2
  exact ⟨.lst ho (pdAll hr) (by rw [List.length_map]; exact hl), by show PyData.canLay0 (.list _) = true; rw [PyData.canLay0]; exact k1, by show PyData.depth (.list _) ≤ _; rw [PyData.depth]; omega⟩
theorem dd_T2 {p1 p2 : PyData} {n1 n2 : Nat} (h1 : Dd d1 p1 n1 Kp) (h2 : Dd d2 p2 n2 Kq) : Dd (dyT2 d1 d2) (.tuple [p1, p2]) (max n1 n2 + 1) (fun O => Kp O ∧ Kq O) := fun w k ⟨t, v1, v2, h, g, r1, r2⟩ => by
  subst h
  obtain ⟨a1, b1, c1⟩ := h1 w k.1 r1
  obtain ⟨a2, b2, c2⟩ := h2 w k.2 r2
  exact ⟨.tup (w.ex _ _ g) (.cons a1 (.cons a2 .nil)) (by show 2 ≤ 1000000; decide), by simp only [PyData.canLay0, PyData.canLayAll0, b1, b2]; rfl, by simp only [PyData.depth, PyData.depthAll]; omega⟩
theorem dd_T3 {p1 p2 p3 : PyData} {n1 n2 n3 : Nat} {Kr : Own → Prop} (h1 : Dd d1 p1 n1 Kp) (h2 : Dd d2 p2 n2 Kq) (h3 : Dd d3 p3 n3 Kr) : Dd (dyT3 d1 d2 d3) (.tuple [p1, p2, p3]) (max n1 (max n2 n3) + 1) (fun O => Kp O ∧ Kq O ∧ Kr O) := fun w k ⟨t, v1, v2, v3, h, g, r1, r2, r3⟩ => by
  subst h
  obtain ⟨a1, b1, c1⟩ := h1 w k.1 r1
  obtain ⟨a2, b2, c2⟩ := h2 w k.2.1 r2
  obtain ⟨a3, b3, c3⟩ := h3 w k.2.2 r3
  exact ⟨.tup (w.ex _ _ g) (.cons a1 (.cons a2 (.cons a3 .nil))) (by show 3 ≤ 1000000; decide), by simp only [PyData.canLay0, PyData.canLayAll0, b1, b2, b3]; rfl, by simp only [PyData.depth, PyData.depthAll]; omega⟩
theorem eq_D {p : PyData} {n : Nat} (h : EvD te τ O d O') (hd : Dd d p n Kp) (hk : Kp O') (hn : n ≤ 64 := by decide) : EvQ te τ O p O' Kp := fun σ G0 G H s w Q q => h σ G0 G H s w _ fun v G2 H2 e2 w2 r2 =>
  q v G2 H2 e2 w2 (fun G0 G3 H3 O3 e3 w3 k => (hd w3 k (d.mono e3 r2)).1) ⟨(hd w2 hk r2).2.1, Nat.le_trans (hd w2 hk r2).2.2 hn⟩
theorem ep_D {p : PyData} {n : Nat} (h : EvD te τ O d O') (hd : Dd d p n Kp) (hk : Kp O') (hn : n ≤ 64 := by decide) : EvP te τ O p O' K Kp := fun σ G0 G H s w Q q => h σ G0 G H s w _ fun v G2 H2 e2 w2 r2 =>
  q v G2 H2 e2 w2 (fun G0 G3 H3 O3 e3 w3 k => (hd w3 k (d.mono e3 r2)).1.dp) ⟨(hd w2 hk r2).2.1, Nat.le_trans (hd w2 hk r2).2.2 hn⟩
/-! ### loops whose own things are made anew -/
def BdA {σ ρ α A : Type} [Rp α] (G0 : Hp) (D : Ends) (tb : TS) (g : TG) (τI : σ → A → Env) (OI : σ → A → Own) (fl : Fl σ ρ) (x : α) (s : σ) (ad : A) (fl' : Fl σ ρ) : Prop :=
  ∀ D' : Ends, D'.rt = D.rt → (∀ s' ad', fl' = .next s' → Nx G0 D'.nx (τI s' ad') (OI s' ad')) → (∀ r, fl' = .ret r → fl = .ret r) → ∃ τ' ws, Tgt g x (τI s ad) τ' ws ∧ Nx G0 (tb D') τ' (OI s ad)
theorem nx_forA {σ ρ A : Type} {xs : List α} {s0 : σ} {ad0 : A} {τI : σ → A → Env} {OI : σ → A → Own} {f : α → σ → Option (Fl σ ρ)} {fl : Fl σ ρ} (hm : forO xs s0 f = some fl) (hw : Wk wi τ O xs (OI s0 ad0) Kp) (hs : Sub (τI s0 ad0) τ) (hk : ∀ s ad, Kp (OI s ad))
    (hb : ∀ G1, Ex G0 G1 → ∀ x s ad fl', x ∈ xs → f x s = some fl' → BdA G1 D tu g τI OI fl x s ad fl') (hn : ∀ s ad, fl = .next s → Nx G0 D.nx (τI s ad) (OI s ad)) : Nx G0 (tFor wi g tu D) τ O := fun σ G H s w =>
  hw σ G0 G H s w _ fun J G2 H2 e2 w2 ok hl => by
    have e02 : Ex G0 G2 := w2.base
    refine ⟨fun i m σ' H' => m = xs.length - i ∧ i ≤ xs.length ∧ ∃ s ad G', Sl G' σ' (τI s ad) ∧ W G2 G' (OI s ad) H' ∧ forO (xs.drop i) s f = some fl, ⟨xs.length, by omega, by omega, s0, ad0, G2, (hs.sl s).mono e2, w2.start, by rw [List.drop_zero]; exact hm⟩, ?_⟩
    rintro i m σ' H' ⟨rfl, hi, s', ad', G', sl, w', hf⟩
    by_cases hlt : i < xs.length
    · have hx : xs[i]? = some xs[i] := List.getElem?_eq_getElem hlt
      have hd : xs.drop i = xs[i] :: xs.drop (i + 1) := List.drop_eq_getElem_cons hlt
      rw [hd] at hf
      obtain ⟨fl', h1, h2⟩ := forO_cons hf
      obtain ⟨go, yld⟩ := (ok G2 G' H' (OI s' ad') i w'.base w' (hk s' ad')).1 _ hx
      refine .inr ⟨go, fun σ' H' => ∃ s ad G', Sl G' σ' (τI s ad) ∧ W G2 G' (OI s ad) H' ∧ forO (xs.drop (i + 1)) s f = some fl, fun σ3 H3 h3 => ⟨xs.length - (i + 1), by omega, rfl, hlt, h3⟩, fun v H3 hy => ?_⟩
      obtain ⟨G3, e3, w3, r3⟩ := yld v H3 hy
      obtain ⟨τ', ws, ht, hb⟩ := hb G2 e02 xs[i] s' ad' fl' (List.getElem_mem hlt) h1 { D with nx := fun σ' H' => ∃ s ad G', Sl G' σ' (τI s ad) ∧ W G2 G' (OI s ad) H' ∧ forO (xs.drop (i + 1)) s f = some fl, ct := fun σ' H' => ∃ s ad G', Sl G' σ' (τI s ad) ∧ W G2 G' (OI s ad) H' ∧ forO (xs.drop (i + 1)) s f = some fl, bk := D.nx } rfl
        (fun s4 ad4 e4 σ4 G4 H4 sl4 w4 => by
          rcases h2 with ⟨s5, e5, h5⟩ | ⟨r, e5, _⟩
          · rw [e4] at e5
            cases e5
            exact ⟨s4, ad4, G4, sl4, w4, h5⟩
          · rw [e4] at e5
            cases e5)
        (fun r er => by
          rcases h2 with ⟨s5, e5, h5⟩ | ⟨r', e5, h5⟩
          · rw [er] at e5
            cases e5
          · rw [er] at e5
            cases e5
            exact h5)
      exact ht σ' G3 H3 v _ w3.ex (sl.mono e3) r3 fun σ4 s4 _ => hb σ4 G3 H3 s4 w3
    · have ei : i = xs.length := by omega
      subst ei
      rw [List.drop_length] at hf
      have hf : fl = .next s' := (Option.some.inj hf).symm
      exact .inl ⟨(ok G2 G' H' (OI s' ad') _ w'.base w' (hk s' ad')).2 (Nat.le_refl _), hn s' ad' hf σ' G' H' sl (w'.up e02)⟩
def BdFA {σ α A : Type} [Rp α] (G0 : Hp) (D : Ends) (tb : TS) (g : TG) (τI : σ → A → Env) (OI : σ → A → Own) (x : α) (s : σ) (ad : A) (s' : σ) : Prop :=
  ∀ D' : Ends, D'.rt = D.rt → (∀ ad', Nx G0 D'.nx (τI s' ad') (OI s' ad')) → ∃ τ' ws, Tgt g x (τI s ad) τ' ws ∧ Nx G0 (tb D') τ' (OI s ad)
theorem nx_foldA {σ A : Type} {xs : List α} {s0 s1 : σ} {ad0 : A} {τI : σ → A → Env} {OI : σ → A → Own} {f : α → σ → Option σ} (hm : foldO xs s0 f = some s1) (hw : Wk wi τ O xs (OI s0 ad0) Kp) (hs : Sub (τI s0 ad0) τ) (hk : ∀ s ad, Kp (OI s ad))
    (hb : ∀ G1, Ex G0 G1 → ∀ x s ad s', x ∈ xs → f x s = some s' → BdFA G1 D tu g τI OI x s ad s') (hn : ∀ ad, Nx G0 D.nx (τI s1 ad) (OI s1 ad)) : Nx G0 (tFor wi g tu D) τ O :=
  nx_forA (forO_fold hm) hw hs hk (fun G1 e1 x s ad fl' hx hf D' h1 h2 h3 => by
    obtain ⟨s', h4, rfl⟩ := mE hf
    exact hb G1 e1 x s ad s' hx h4 D' h1 (fun ad' => h2 s' ad' rfl)) (fun s ad hs => by cases hs; exact hn ad)
def BdWA {σ ρ A : Type} (G0 : Hp) (D : Ends) (tb : TS) (τI : σ → A → Env) (OI : σ → A → Own) (fl : Fl σ ρ) (s : σ) (ad : A) (fl' : Fl σ ρ) : Prop :=
  ∀ D' : Ends, D'.rt = D.rt → (∀ s' ad', fl' = .next s' → Nx G0 D'.nx (τI s' ad') (OI s' ad')) → (∀ r, fl' = .ret r → fl = .ret r) → Nx G0 (tb D') (τI s ad) (OI s ad)
theorem nx_whileA {σ ρ A : Type} {s0 : σ} {ad0 : A} {n : Nat} {τI : σ → A → Env} {OI : σ → A → Own} {cc : σ → Option Bool} {f : σ → Option (Fl σ ρ)} {fl : Fl σ ρ} (hm : whileO n s0 cc f = some fl) (hO : O = OI s0 ad0) (hs : Sub (τI s0 ad0) τ)
    (hc : ∀ s ad b, cc s = some b → EvT t (τI s ad) (OI s ad) b (OI s ad)) (hb : ∀ s ad fl', cc s = some true → f s = some fl' → BdWA G0 D tu τI OI fl s ad fl') (hn : ∀ s ad, fl = .next s → Nx G0 D.nx (τI s ad) (OI s ad)) : Nx G0 (tWhile t tu D) τ O := fun σ G H s w => by
  subst hO
  refine ⟨fun m σ' H' => ∃ s ad G', Sl G' σ' (τI s ad) ∧ W G0 G' (OI s ad) H' ∧ whileO m s cc f = some fl, ⟨n, s0, ad0, G, hs.sl s, w, hm⟩, ?_⟩
  rintro m σ' H' ⟨s', ad', G', sl, w', hf⟩
  cases m with
  | zero => cases hf
  | succ m =>
    obtain ⟨b, h1, h2⟩ := whileO_succ hf
    refine hc s' ad' b h1 σ' G0 G' H' sl w' _ fun G3 H3 e3 w3 => ?_
    rcases h2 with ⟨rfl, h2⟩ | ⟨rfl, fl', h2, h3⟩
    · exact hn s' ad' h2 σ' G3 H3 (sl.mono e3) w3
    · refine ⟨fun σ' H' => ∃ s ad G', Sl G' σ' (τI s ad) ∧ W G0 G' (OI s ad) H' ∧ whileO m s cc f = some fl, fun σ4 H4 h4 => ⟨m, Nat.lt_succ_self m, h4⟩, ?_⟩
      refine hb s' ad' fl' h1 h2 _ ?_ ?_ ?_ σ' G3 H3 (sl.mono e3) w3
      · rfl
      · intro s4 ad4 e4 σ4 G4 H4 sl4 w4
        rcases h3 with ⟨s5, e5, h5⟩ | ⟨r, e5, _⟩
        · rw [e4] at e5
          cases e5
          exact ⟨s4, ad4, G4, sl4, w4, h5⟩
        · rw [e4] at e5
          cases e5
      · intro r er
        rcases h3 with ⟨s5, e5, h5⟩ | ⟨r', e5, h5⟩
        · rw [er] at e5
          cases e5
        · rw [er] at e5
          cases e5
          exact h5
def BdLA {σ A : Type} (G0 : Hp) (D : Ends) (tb : TS) (τI : σ → A → Env) (OI : σ → A → Own) (s : σ) (ad : A) (s' : σ) : Prop :=
  ∀ D' : Ends, D'.rt = D.rt → (∀ ad', Nx G0 D'.nx (τI s' ad') (OI s' ad')) → Nx G0 (tb D') (τI s ad) (OI s ad)
theorem nx_loopA {σ A : Type} {s0 s1 : σ} {ad0 : A} {n : Nat} {τI : σ → A → Env} {OI : σ → A → Own} {cc : σ → Option Bool} {f : σ → Option σ} (hm : loopO n s0 cc f = some s1) (hO : O = OI s0 ad0) (hs : Sub (τI s0 ad0) τ)
    (hc : ∀ s ad b, cc s = some b → EvT t (τI s ad) (OI s ad) b (OI s ad)) (hb : ∀ s ad s', cc s = some true → f s = some s' → BdLA G0 D tu τI OI s ad s') (hn : ∀ ad, Nx G0 D.nx (τI s1 ad) (OI s1 ad)) : Nx G0 (tWhile t tu D) τ O :=
  nx_whileA (whileO_loop hm) hO hs hc (fun s ad fl' h0 hf D' h1 h2 h3 => by
    obtain ⟨s', h4, rfl⟩ := mE hf
    exact hb s ad s' h0 h4 D' h1 (fun ad' => h2 s' ad' rfl)) (fun s ad hs => by cases hs; exact hn ad)
theorem nx_front {N : L2.St → Hp → Prop} {k : Nat} {p : Addr × Cell} (hk : O[k]? = some p) (h : Nx G0 N τ (p :: O.eraseIdx k)) : Nx G0 N τ O := fun σ G H s w => h σ G H s (w.front hk)
theorem nx_erase {N : L2.St → Hp → Prop} {k : Nat} {p : Addr × Cell} (hk : O[k]? = some p) (h : Nx G0 N τ (O.eraseIdx k)) : Nx G0 N τ O := fun σ G H s w => h σ G H s (w.front hk).drop
/-! ### what changes a list -/
theorem seqIx (n : Nat) (i : Int) : seqIndex? i n = ixJ n i := by
  unfold seqIndex? ixJ
  simp only [Bool.and_eq_true, decide_eq_true_eq]
  by_cases h : i < 0
  · rw [if_pos h, if_neg (show ¬ 0 ≤ i by omega)]
    by_cases k : -(n : Int) ≤ i
    · rw [if_pos k, if_pos (by omega)]
    · rw [if_neg k, if_neg (by omega)]
  · rw [if_neg h, if_pos (show 0 ≤ i by omega)]
    by_cases k : i < n
    · rw [if_pos k, if_pos (by omega)]
    · rw [if_neg k, if_neg (by omega)]
theorem RpL.erase {G : Hp} : ∀ {vs : List V} {xs : List α} (i : Nat), RpL G vs xs → RpL G (vs.eraseIdx i) (xs.eraseIdx i)
  | [], [], _, _ => trivial
  | _ :: _, _ :: _, 0, ⟨_, t⟩ => t
  | _ :: _, _ :: _, i + 1, ⟨h, t⟩ => ⟨h, RpL.erase i t⟩
  | [], _ :: _, _, h => h.elim
  | _ :: _, [], _, h => h.elim
theorem eraseIdx_le {xs : List α} {n i : Nat} (h : xs.length ≤ n) : (xs.eraseIdx i).length ≤ n := Nat.le_trans (List.length_eraseIdx_le ..) h
theorem ev_popAt {l : Addr} {xs0 xs : List α} {n : Int} {r : α × List α} (k : Nat) (hp : EvD tp τ O (dyA l) O1) (hk0 : O1[k]? = some (l, cL xs0)) (h : Ev te τ O1 n O2) (hk : O2[k]? = some (l, cL xs)) (hz : popO xs n = some r) :
    Ev (tBM K "list" rPopAt tp (tCons te tNil)) τ O r.1 (O2.set k (l, cL r.2)) := fun σ G0 G H s w Q q => by
  unfold popO at hz
  split at hz
  next hc =>
    obtain ⟨j, hj, hz⟩ := bE hz
    obtain ⟨x, hx, rfl⟩ := mE hz
    refine hp σ G0 G H s w _ fun v G1 H1 e1 w1 r1 => ?_
    have r1 : v = .ref l := r1
    subst r1
    obtain ⟨_, o, ho, vs, rfl, _, _⟩ := w1.get hk0
    refine ⟨.inl ⟨rfl, vs, .inl (.inl ho)⟩, h σ G0 G1 H1 (s.mono e1) w1 _ fun v G2 H2 e2 w2 r2 => ?_⟩
    obtain ⟨_, o2, ho2, us, rfl, hr, hl⟩ := w2.get hk
    obtain ⟨y, hy, ry⟩ := hr.get hx
    exact ⟨l, us, n, j, y, rfl, by rw [r2], ho2, hc.1, hc.2, by rw [seqIx, hr.length]; exact hj, hy, q y G2 _ (e1.trans e2) (w2.put (c' := cL1 (xs.eraseIdx j)) hk ⟨_, rfl, RpL.erase j hr, eraseIdx_le hl⟩) ry⟩
  next => cases hz
theorem RpL.dropLast {G : Hp} {vs : List V} {xs : List α} (h : RpL G vs xs) : RpL G vs.dropLast xs.dropLast := by
  rw [List.dropLast_eq_take, List.dropLast_eq_take, h.length]
  exact h.take _
theorem ev_pop {l : Addr} {xs : List α} {r : α × List α} (k : Nat) (hp : EvD tp τ O (dyA l) O1) (hk : O1[k]? = some (l, cL xs)) (hz : popL xs = some r) :
    Ev (tBM0 K "list" rPop tp) τ O r.1 (O1.set k (l, cL r.2)) := fun σ G0 G H s w Q q => by
  obtain ⟨x, hx, rfl⟩ := mE hz
  refine hp σ G0 G H s w _ fun v G1 H1 e1 w1 r1 => ?_
  have r1 : v = .ref l := r1
  subst r1
  obtain ⟨_, o, ho, vs, rfl, hr, hl⟩ := w1.get hk
  obtain ⟨y, hy, ry⟩ := hr.get hx
  exact ⟨.inl ⟨rfl, vs, .inl (.inl ho)⟩, l, vs, y, rfl, rfl, ho, by rw [hr.length]; exact hy, q y G1 _ e1 (w1.put (c' := cL1 xs.dropLast) hk ⟨_, rfl, RpL.dropLast hr, by rw [List.length_dropLast]; omega⟩) ry⟩
abbrev rInsert : V → List V → Hp → VK → Prop := fun x vs H Q => ∃ (l : Addr) (xs : List V) (i : Int) (y : V), x = .ref l ∧ vs = [.int i, y] ∧ H l = some (.lst xs) ∧ xs.length < sizeLine ∧ 0 ≤ i ∧ i < 2 ^ 63 ∧
    Q .non (upd H l (.lst (xs.take i.toNat ++ [y] ++ xs.drop i.toNat)))
theorem nx_ins {l : Addr} {xs0 xs ys : List α} {x : α} {n : Int} (k : Nat) (hp : EvD tp τ O (dyA l) O1) (hk0 : O1[k]? = some (l, cL xs0)) (hb : Ev tb τ O1 n O2) (h : Ev te τ O2 x O3) (hk : O3[k]? = some (l, cL xs)) (hz : insO xs n x = some ys) (q : Nx G0 D.nx τ (O3.set k (l, cL ys))) :
    Nx G0 (tDrop (tBM K "list" rInsert tp (tCons tb (tCons te tNil))) D) τ O := fun σ G H s w => by
  unfold insO at hz
  split at hz
  next hc =>
    cases hz
    refine hp σ G0 G H s w _ fun v G1 H1 e1 w1 r1 => ?_
    have r1 : v = .ref l := r1
    subst r1
    obtain ⟨_, o, ho, vs, rfl, _, _⟩ := w1.get hk0
    refine ⟨.inl ⟨rfl, vs, .inl (.inl ho)⟩, hb σ G0 G1 H1 (s.mono e1) w1 _ fun v2 G2 H2 e2 w2 r2 => h σ G0 G2 H2 ((s.mono e1).mono e2) w2 _ fun v3 G3 H3 e3 w3 r3 => ?_⟩
    obtain ⟨_, o2, ho2, us, rfl, hr, hl⟩ := w3.get hk
    have hlt : xs.length < 1000000 := hc.2.2
    refine ⟨l, us, n, v3, rfl, by rw [r2], ho2, Nat.lt_of_lt_of_le (by rw [hr.length]; exact hlt) (by decide), hc.1, hc.2.1, ?_⟩
    refine q σ G3 _ (((s.mono e1).mono e2).mono e3) (w3.put (c' := cL1 (xs.take n.toNat ++ [x] ++ xs.drop n.toNat)) hk ⟨_, rfl, ((hr.take _).append (show RpL G3 [v3] [x] from ⟨r3, trivial⟩)).append (hr.drop _), ?_⟩)
    rw [List.length_append, List.length_append, List.length_take, List.length_drop]
    show min n.toNat xs.length + 1 + (xs.length - n.toNat) ≤ 1000000
    omega
  next => cases hz
theorem nx_ext {l : Addr} {xs0 xs ys zs : List α} (k : Nat) (hp : EvD tp τ O (dyA l) O1) (hk0 : O1[k]? = some (l, cL xs0)) (h : EvLs te τ O1 zs O2 Kp) (hkp : Kp O2) (hk : O2[k]? = some (l, cL xs)) (hz : catO xs zs = some ys) (q : Nx G0 D.nx τ (O2.set k (l, cL ys))) :
    Nx G0 (tDrop (tBM K "list" rExtend tp (tCons te tNil)) D) τ O := fun σ G H s w => by
  obtain ⟨rfl, hc⟩ := catO_ok hz
  refine hp σ G0 G H s w _ fun v G1 H1 e1 w1 r1 => ?_
  have r1 : v = .ref l := r1
  subst r1
  obtain ⟨_, o, ho, vs, rfl, _, _⟩ := w1.get hk0
  refine ⟨.inl ⟨rfl, vs, .inl (.inl ho)⟩, h σ G0 G1 H1 (s.mono e1) w1 _ fun p G2 H2 e2 w2 st hl2 => ?_⟩
  obtain ⟨_, o2, ho2, us, rfl, hr, hl⟩ := w2.get hk
  obtain ⟨ws, hw1, hw2⟩ := st.now w2 hkp
  refine ⟨l, p, us, ws, rfl, rfl, ho2, hw1, sz_small (by rw [hr.length, hw2.length]; exact hc), ?_⟩
  exact q σ G2 _ ((s.mono e1).mono e2) (w2.put (c' := cL1 (xs ++ zs)) hk ⟨_, rfl, hr.append hw2, by rw [List.length_append]; exact hc⟩)
theorem nx_clear {l : Addr} {xs : List α} (k : Nat) (hp : EvD tp τ O (dyA l) O1) (hk : O1[k]? = some (l, cL xs)) (q : Nx G0 D.nx τ (O1.set k (l, cL ([] : List α)))) :
    Nx G0 (tDrop (tBM0 K "list" rClear tp) D) τ O := fun σ G H s w => by
  refine hp σ G0 G H s w _ fun v G1 H1 e1 w1 r1 => ?_
  have r1 : v = .ref l := r1
  subst r1
  obtain ⟨_, o, ho, vs, rfl, _, _⟩ := w1.get hk
  exact ⟨.inl ⟨rfl, vs, .inl (.inl ho)⟩, l, vs, rfl, rfl, ho, q σ G1 _ (s.mono e1) (w1.put (c' := cL1 ([] : List α)) hk ⟨_, rfl, trivial, Nat.zero_le _⟩)⟩
theorem nx_rem {l : Addr} {xs0 xs ys : List Int} {n : Int} (k : Nat) (hp : EvD tp τ O (dyA l) O1) (hk0 : O1[k]? = some (l, cL xs0)) (h : Ev te τ O1 n O2) (hk : O2[k]? = some (l, cL xs)) (hz : remO xs n = some ys) (q : Nx G0 D.nx τ (O2.set k (l, cL ys))) :
    Nx G0 (tDrop (tBM K "list" rRemI tp (tCons te tNil)) D) τ O := fun σ G H s w => by
  unfold remO at hz
  split at hz
  next hc =>
    cases hz
    refine hp σ G0 G H s w _ fun v G1 H1 e1 w1 r1 => ?_
    have r1 : v = .ref l := r1
    subst r1
    obtain ⟨_, o, ho, vs, rfl, _, _⟩ := w1.get hk0
    refine ⟨.inl ⟨rfl, vs, .inl (.inl ho)⟩, h σ G0 G1 H1 (s.mono e1) w1 _ fun v2 G2 H2 e2 w2 r2 => ?_⟩
    obtain ⟨_, o2, ho2, us, rfl, hr, hl⟩ := w2.get hk
    have e := hr.ints
    subst e
    have hi : xs.idxOf n < xs.length := List.idxOf_lt_length_of_mem hc
    refine ⟨l, xs, n, xs.idxOf n, rfl, by rw [r2], ho2, by rw [List.getElem?_eq_getElem hi, List.getElem_idxOf hi], fun m hm z => ?_, ?_⟩
    · have := List.not_of_lt_findIdx (xs := xs) (p := (· == n)) (i := m) hm
      obtain ⟨h1, h2⟩ := List.getElem?_eq_some_iff.mp z
      simp [h2] at this
    · rw [← List.erase_eq_eraseIdx_of_idxOf (by rfl)]
      exact q σ G2 _ ((s.mono e1).mono e2) (w2.put (c' := cL1 (xs.erase n)) hk ⟨_, rfl, RpL.ofInts, Nat.le_trans (List.length_erase_le ..) hl⟩)
  next => cases hz
/-! ### more of numbers and lists -/
theorem foldl_max : ∀ (xs : List Int) (x : Int), xs.foldl max x ∈ x :: xs ∧ ∀ y ∈ x :: xs, y ≤ xs.foldl max x
  | [], x => ⟨List.mem_cons_self .., fun y hy => by rw [List.mem_singleton.mp hy]; exact Int.le_refl _⟩
  | z :: xs, x => by
    obtain ⟨h1, h2⟩ := foldl_max xs (max x z)
    refine ⟨?_, fun y hy => ?_⟩
    · show xs.foldl max (max x z) ∈ _
      rcases List.mem_cons.mp h1 with e | e
      · rw [e]
        rcases Int.le_total x z with k | k
        · rw [Int.max_eq_right k]; simp
        · rw [Int.max_eq_left k]; simp
      · exact List.mem_cons_of_mem _ (List.mem_cons_of_mem _ e)
    · show y ≤ xs.foldl max (max x z)
      have h0 := h2 (max x z) (List.mem_cons_self ..)
      rcases List.mem_cons.mp hy with e | e
      · rw [e]; omega
      · rcases List.mem_cons.mp e with e | e
        · rw [e]; omega
        · exact h2 y (List.mem_cons_of_mem _ e)
theorem foldl_min : ∀ (xs : List Int) (x : Int), xs.foldl min x ∈ x :: xs ∧ ∀ y ∈ x :: xs, xs.foldl min x ≤ y
  | [], x => ⟨List.mem_cons_self .., fun y hy => by rw [List.mem_singleton.mp hy]; exact Int.le_refl _⟩
  | z :: xs, x => by
    obtain ⟨h1, h2⟩ := foldl_min xs (min x z)
    refine ⟨?_, fun y hy => ?_⟩
    · show xs.foldl min (min x z) ∈ _
      rcases List.mem_cons.mp h1 with e | e
      · rw [e]
        rcases Int.le_total x z with k | k
        · rw [Int.min_eq_left k]; simp
        · rw [Int.min_eq_right k]; simp
      · exact List.mem_cons_of_mem _ (List.mem_cons_of_mem _ e)
    · show xs.foldl min (min x z) ≤ y
      have h0 := h2 (min x z) (List.mem_cons_self ..)
      rcases List.mem_cons.mp hy with e | e
      · rw [e]; omega
      · rcases List.mem_cons.mp e with e | e
        · rw [e]; omega
        · exact h2 y (List.mem_cons_of_mem _ e)
theorem ev_maxL {xs : List Int} {m : Int} (ha : EvLs ta τ O xs O1 Kp) (hk : Kp O1) (h : maxL xs = some m) : Ev (tCB (rMax K) (tCons ta tNil)) τ O m O1 := fun σ G0 G H s w Q q =>
  ha σ G0 G H s w _ fun p G2 H2 e2 w2 st hl => by
    obtain ⟨vs, k1, k2⟩ := st.now w2 hk
    cases xs with
    | nil => cases h
    | cons x xs =>
      cases h
      obtain ⟨f1, f2⟩ := foldl_max xs x
      refine ⟨p, x :: xs, rfl, .inl (.inl (by rw [k1, k2.ints])), Nat.zero_lt_succ _, fun m hm hle => ?_⟩
      have e : m = xs.foldl max x := Int.le_antisymm (f2 m hm) (hle _ f1)
      subst e
      exact q _ G2 H2 e2 w2 rfl
theorem ev_minL {xs : List Int} {m : Int} (ha : EvLs ta τ O xs O1 Kp) (hk : Kp O1) (h : minL xs = some m) : Ev (tCB (rMin K) (tCons ta tNil)) τ O m O1 := fun σ G0 G H s w Q q =>
  ha σ G0 G H s w _ fun p G2 H2 e2 w2 st hl => by
    obtain ⟨vs, k1, k2⟩ := st.now w2 hk
    cases xs with
    | nil => cases h
    | cons x xs =>
      cases h
      obtain ⟨f1, f2⟩ := foldl_min xs x
      refine ⟨p, x :: xs, rfl, .inl (.inl (by rw [k1, k2.ints])), Nat.zero_lt_succ _, fun m hm hle => ?_⟩
      have e : m = xs.foldl min x := Int.le_antisymm (hle _ f1) (f2 m hm)
      subst e
      exact q _ G2 H2 e2 w2 rfl
/-- for k in reversed(range(b)), reversed(range(a, b)) -/
theorem wk_revR1 {xs : List Int} (h : Ev ta τ O b O') (hr : rngO 0 b = some xs) : Wk (iRevR (tRg1 ta)) τ O xs.reverse O' KT := fun σ G0 G H s w R q =>
  h σ G0 G H s w _ fun v G2 H2 e2 w2 r2 => by
    obtain ⟨rfl, h1, h2, h3, h4, h5⟩ := rngO_ok hr
    refine ⟨b, r2, by omega, by omega, by omega, by omega, q _ G2 H2 e2 w2 (fun G0' G3 H3 O3 i e3 w3 k3 => ⟨fun x hx => ?_, fun hi => ?_⟩) (by rw [List.length_reverse, rng_length]; omega)⟩
    · have hi : i < (rng 0 b).length := by
        have := (List.getElem?_eq_some_iff.mp hx).1
        rwa [List.length_reverse] at this
      rw [List.getElem?_reverse hi] at hx
      obtain ⟨rfl, hj⟩ := rng_get hx
      rw [rng_length] at hi hj ⊢
      refine ⟨hi, fun v' H' hy => ?_⟩
      obtain ⟨rfl, rfl⟩ := hy
      refine ⟨G3, Ex.refl _, w3, ?_⟩
      show V.int _ = V.int _
      congr 1
      omega
    · rw [List.length_reverse, rng_length] at hi
      exact hi
/-- sorted of pairs of numbers -/
def keyP (H : Hp) : V → Int × Int
  | .ref t => match H t with
    | some (.tup [.int i, .int j]) => (i, j)
    | _ => (0, 0)
  | _ => (0, 0)
theorem keyP_of {H : Hp} {v : V} {x : T2 Int Int} (h : rp H v x) : keyP H v = (x.a, x.b) := by
  obtain ⟨t, v1, v2, rfl, g, r1, r2⟩ := h
  have r1 : v1 = .int x.a := r1
  have r2 : v2 = .int x.b := r2
  subst r1
  subst r2
  show (match H t with
    | some (.tup [.int i, .int j]) => (i, j)
    | _ => (0, 0)) = _
  rw [g]
theorem RpL.perm {G : Hp} {vs us : List V} (p : us.Perm vs) : ∀ {xs : List α}, RpL G vs xs → ∃ ys, ys.Perm xs ∧ RpL G us ys := by
  induction p with
  | nil => exact fun {xs} h => ⟨xs, List.Perm.refl _, h⟩
  | cons v p ih =>
    intro xs h
    cases xs with
    | nil => exact h.elim
    | cons x xs =>
      obtain ⟨ys, h1, h2⟩ := ih h.2
      exact ⟨x :: ys, h1.cons x, h.1, h2⟩
  | swap v u l =>
    intro xs h
    match xs, h with
    | x :: y :: xs, ⟨h1, h2, h3⟩ => exact ⟨y :: x :: xs, List.Perm.swap .., h2, h1, h3⟩
  | trans p1 p2 ih1 ih2 =>
    intro xs h
    obtain ⟨ys, h1, h2⟩ := ih2 h
    obtain ⟨zs, h3, h4⟩ := ih1 h2
    exact ⟨zs, h3.trans h1, h4⟩
theorem pw_leP {H : Hp} : ∀ {us : List V} {ys : List (T2 Int Int)}, RpL H us ys → SrtO.Srtd (ltP (keyP H)) us → ys.Pairwise (fun a b => leP a b = true)
  | [], [], _, _ => List.Pairwise.nil
  | [], _ :: _, h, _ => h.elim
  | _ :: _, [], h, _ => h.elim
  | u :: us, y :: ys, ⟨h, t⟩, s => by
    obtain ⟨s1, s2⟩ := List.pairwise_cons.mp s
    refine List.pairwise_cons.mpr ⟨fun z hz => ?_, pw_leP t s2⟩
    obtain ⟨i, hi⟩ := List.mem_iff_getElem?.mp hz
    obtain ⟨v, hv, rv⟩ := t.get hi
    have k := SrtO.lexB_no.mp (s1 v (List.mem_of_getElem? hv))
    rw [keyP_of h, keyP_of rv] at k
    rw [leP_iff]
    simp only at k
    omega
theorem en_sortedP {xs : List (T2 Int Int)} (ha : EvLs ta τ O xs O1 Kp) (hk : Kp O1) : EvN (tCB (rSortedPO K) (tCons ta tNil)) τ O (isrtP xs) O1 := fun σ G0 G H s w Q q =>
  ha σ G0 G H s w _ fun p G2 H2 e2 w2 st hl => by
    obtain ⟨vs, h1, h2⟩ := st.now w2 hk
    have h2H : RpL H2 vs xs := h2.mono w2.ex
    refine ⟨p, vs, keyP H2, rfl, .inl (.inl h1), fun x hx => ?_, fun us l hs hb hn => ?_⟩
    · obtain ⟨i, hi⟩ := List.mem_iff_getElem?.mp hx
      obtain ⟨y, hy, ry⟩ := h2H.get' hi
      rw [keyP_of ry]
      obtain ⟨t, v1, v2, rfl, g, r1, r2⟩ := ry
      have r1 : v1 = .int y.a := r1
      have r2 : v2 = .int y.b := r2
      subst r1
      subst r2
      exact ⟨t, rfl, g⟩
    · obtain ⟨ys, y1, y2⟩ := h2.perm hb.perm
      have e : ys = isrtP xs := leP_unique (y1.trans (isrtP_perm xs).symm) (pw_leP (y2.mono w2.ex) hs) (isrtP_pw xs)
      subst e
      exact q l G2 _ e2 (w2.alloc (c := cL1 (isrtP xs)) hn ⟨_, rfl, y2, by rw [(isrtP_perm xs).length_eq]; exact hl⟩)
end
theorem kc_max {X : Cx} (K : PySem.W.Frag) (h : X.K = K) (hc : X.calm = true) : CallR X (.builtin "max") (rMax K) := h ▸ cr_max hc
theorem kc_min {X : Cx} (K : PySem.W.Frag) (h : X.K = K) (hc : X.calm = true) : CallR X (.builtin "min") (rMin K) := h ▸ cr_min hc
theorem kc_sortedPO {X : Cx} (K : PySem.W.Frag) (h : X.K = K) : CallR X (.builtin "sorted") (rSortedPO K) := h ▸ cr_sortedPO
end DL
end
section
namespace DL
open PySem PySem.Spec PyProof.Rows L2
open Rp (rp)
/-! ### dicts -/
def RpK {α : Type} [Rp α] (G : Hp) : List (Key × V) → List (T2 Int α) → Prop
  | [], [] => True
  | p :: ps, x :: xs => (p.1 = Sum.inl x.a ∧ rp G p.2 x.b) ∧ RpK G ps xs
  | _, _ => False
section
variable {α : Type} [Rp α]
theorem RpK.mono {G G' : Hp} (e : Ex G G') : ∀ {ps : List (Key × V)} {xs : List (T2 Int α)}, RpK G ps xs → RpK G' ps xs
  | [], [], _ => trivial
  | _ :: _, _ :: _, ⟨⟨h, k⟩, t⟩ => ⟨⟨h, Rp.mono e k⟩, RpK.mono e t⟩
  | [], _ :: _, h => h.elim
  | _ :: _, [], h => h.elim
theorem RpK.length {G : Hp} : ∀ {ps : List (Key × V)} {xs : List (T2 Int α)}, RpK G ps xs → ps.length = xs.length
  | [], [], _ => rfl
  | _ :: _, _ :: _, ⟨_, t⟩ => congrArg (· + 1) (RpK.length t)
  | [], _ :: _, h => h.elim
  | _ :: _, [], h => h.elim
def RpO (G : Hp) : Option V → Option α → Prop
  | none, none => True
  | some v, some x => rp G v x
  | _, _ => False
theorem RpK.val {G : Hp} (k : Int) : ∀ {ps : List (Key × V)} {xs : List (T2 Int α)}, RpK G ps xs → RpO G (valV ps (Sum.inl k)) (atDl k xs)
  | [], [], _ => trivial
  | p :: ps, x :: xs, ⟨⟨h, r⟩, t⟩ => by
    unfold atDl
    by_cases e : x.a = k
    · rw [if_pos e, valV_pos (by rw [h, e])]
      exact r
    · rw [if_neg e, valV_neg (by rw [h]; intro z; exact e (Sum.inl.inj z))]
      exact RpK.val k t
  | [], _ :: _, h => h.elim
  | _ :: _, [], h => h.elim
theorem RpK.append {G : Hp} : ∀ {ps qs : List (Key × V)} {xs ys : List (T2 Int α)}, RpK G ps xs → RpK G qs ys → RpK G (ps ++ qs) (xs ++ ys)
  | [], _, [], _, _, h => h
  | _ :: _, _, _ :: _, _, ⟨h, t⟩, k => ⟨h, RpK.append t k⟩
  | [], _, _ :: _, _, h, _ => h.elim
  | _ :: _, _, [], _, h, _ => h.elim
theorem putDl_new {k : Int} {v : α} : ∀ {xs : List (T2 Int α)}, atDl k xs = none → putDl k v xs = xs ++ [T2.mk k v]
  | [], _ => rfl
  | x :: xs, h => by
    unfold atDl at h
    unfold putDl
    by_cases e : x.a = k
    · rw [if_pos e] at h
      cases h
    · rw [if_neg e] at h
      rw [if_neg e, putDl_new h]
      rfl
theorem putDl_fst {k : Int} {v : α} : ∀ {xs : List (T2 Int α)}, (atDl k xs).isSome = true → (putDl k v xs).map (·.a) = xs.map (·.a)
  | [], h => by cases h
  | x :: xs, h => by
    unfold atDl at h
    unfold putDl
    by_cases e : x.a = k
    · rw [if_pos e]
      simp [e]
    · rw [if_neg e] at h
      rw [if_neg e, List.map_cons, List.map_cons, putDl_fst h]
theorem atDl_none {k : Int} : ∀ {xs : List (T2 Int α)}, atDl k xs = none ↔ k ∉ xs.map (·.a)
  | [] => by simp [atDl]
  | x :: xs => by
    unfold atDl
    by_cases e : x.a = k
    · rw [if_pos e]
      simp [e]
    · rw [if_neg e, atDl_none (xs := xs), List.map_cons, List.mem_cons, not_or]
      constructor
      · exact fun h => ⟨fun z => e z.symm, h⟩
      · exact fun h => h.2
theorem RpK.repl {G : Hp} {k : Int} {u : V} {v : α} (r : rp G u v) : ∀ {ps : List (Key × V)} {xs : List (T2 Int α)}, RpK G ps xs → (xs.map (·.a)).Nodup → (atDl k xs).isSome = true → RpK G (ps.map fun kv => if kv.1 = Sum.inl k then (kv.1, u) else kv) (putDl k v xs)
  | [], [], _, _, h => by cases h
  | p :: ps, x :: xs, ⟨⟨h1, h2⟩, t⟩, nd, h => by
    rw [List.map_cons, List.nodup_cons] at nd
    unfold atDl at h
    unfold putDl
    rw [List.map_cons]
    by_cases e : x.a = k
    · rw [if_pos e, if_pos (by rw [h1, e])]
      refine ⟨⟨by rw [h1, e], r⟩, ?_⟩
      have hno : ∀ q ∈ ps, ¬ q.1 = Sum.inl k := by
        have gen : ∀ {ps : List (Key × V)} {xs : List (T2 Int α)}, RpK G ps xs → k ∉ xs.map (·.a) → ∀ q ∈ ps, ¬ q.1 = Sum.inl k := by
          intro ps
          induction ps with
          | nil => intro xs _ _ q hq; simp at hq
          | cons q0 ps ih =>
            intro xs h hn q hq
            cases xs with
            | nil => exact h.elim
            | cons y ys =>
              rw [List.map_cons, List.mem_cons, not_or] at hn
              rcases List.mem_cons.mp hq with z | z
              · rw [z, h.1.1]
                intro w
                exact hn.1 (Sum.inl.inj w).symm
              · exact ih h.2 hn.2 q z
        exact gen t (e ▸ nd.1)
      rw [show ps.map (fun kv => if kv.1 = Sum.inl k then (kv.1, u) else kv) = ps from by
        conv => rhs; rw [← List.map_id ps]
        exact List.map_congr_left fun q hq => if_neg (hno q hq)]
      exact t
    · rw [if_neg e] at h
      rw [if_neg e, if_neg (by rw [h1]; intro z; exact e (Sum.inl.inj z))]
      exact ⟨⟨h1, h2⟩, RpK.repl r t nd.2 h⟩
  | [], _ :: _, h, _, _ => h.elim
  | _ :: _, [], h, _, _ => h.elim
theorem RpK.put {G : Hp} {k : Int} {u : V} {v : α} (r : rp G u v) {ps : List (Key × V)} {xs : List (T2 Int α)} (h : RpK G ps xs) (nd : (xs.map (·.a)).Nodup) : RpK G (putK ps (Sum.inl k) u) (putDl k v xs) := by
  have hv := h.val k
  unfold putK
  rw [valV_any]
  cases e : atDl k xs with
  | none =>
    rw [e] at hv
    have e2 : valV ps (Sum.inl k) = none := by
      cases z : valV ps (Sum.inl k) with
      | none => rfl
      | some w => rw [z] at hv; exact hv.elim
    rw [e2, if_neg (by simp), putDl_new e]
    exact h.append ⟨⟨rfl, r⟩, trivial⟩
  | some w =>
    rw [e] at hv
    have e2 : (valV ps (Sum.inl k)).isSome = true := by
      cases z : valV ps (Sum.inl k) with
      | none => rw [z] at hv; exact hv.elim
      | some w => rfl
    rw [if_pos e2]
    exact h.repl r nd (by rw [e]; rfl)
theorem putDl_nd {k : Int} {v : α} {xs : List (T2 Int α)} (nd : (xs.map (·.a)).Nodup) : ((putDl k v xs).map (·.a)).Nodup := by
  cases e : atDl k xs with
  | none =>
    rw [putDl_new e, List.map_append, List.nodup_append]
    refine ⟨nd, by simp, fun a ha b hb => ?_⟩
    have hb : b = k := by simpa using hb
    intro z
    exact atDl_none.mp e (by rw [← hb, ← z]; exact ha)
  | some w => rw [putDl_fst (by rw [e]; rfl)]; exact nd
theorem putDl_len {k : Int} {v : α} : ∀ xs : List (T2 Int α), (putDl k v xs).length ≤ xs.length + 1
  | [] => Nat.le_refl _
  | x :: xs => by
    unfold putDl
    split
    · simp
    · have := putDl_len (k := k) (v := v) xs
      simp
      omega
theorem RpK.drop {G : Hp} {k : Int} : ∀ {ps : List (Key × V)} {xs : List (T2 Int α)}, RpK G ps xs → RpK G (dropK ps (Sum.inl k)) (xs.filter fun x => decide (x.a ≠ k))
  | [], [], _ => trivial
  | p :: ps, x :: xs, ⟨⟨h1, h2⟩, t⟩ => by
    have ih := RpK.drop (k := k) t
    unfold dropK at ih ⊢
    rw [List.filter_cons, List.filter_cons]
    by_cases e : x.a = k
    · rw [if_neg (by rw [h1]; simp [e]), if_neg (by simp [e])]
      exact ih
    · have e2 : ¬ p.1 = Sum.inl k := by
        rw [h1]
        intro z
        exact e (Sum.inl.inj z)
      rw [if_pos (by simpa using e2), if_pos (by simpa using e)]
      exact ⟨⟨h1, h2⟩, ih⟩
  | [], _ :: _, h => h.elim
  | _ :: _, [], h => h.elim
theorem RpK.keys {G : Hp} : ∀ {ps : List (Key × V)} {xs : List (T2 Int α)}, RpK G ps xs → ps.map (fun kv => kV kv.1) = (xs.map (·.a)).map V.int
  | [], [], _ => rfl
  | p :: ps, x :: xs, ⟨⟨h1, h2⟩, t⟩ => by
    rw [List.map_cons, List.map_cons, List.map_cons, RpK.keys t, h1]
    rfl
  | [], _ :: _, h => h.elim
  | _ :: _, [], h => h.elim
theorem RpK.get {G : Hp} : ∀ {ps : List (Key × V)} {xs : List (T2 Int α)} {i : Nat} {x : T2 Int α}, RpK G ps xs → xs[i]? = some x → ∃ p, ps[i]? = some p ∧ p.1 = Sum.inl x.a ∧ rp G p.2 x.b
  | [], [], _, _, _, e => by simp at e
  | p :: _, _ :: _, 0, _, ⟨h, _⟩, e => by
    have e := Option.some.inj e
    subst e
    exact ⟨p, rfl, h⟩
  | _ :: _, _ :: _, i + 1, _, ⟨_, t⟩, e => RpK.get (i := i) t e
  | [], _ :: _, _, _, h, _ => h.elim
  | _ :: _, [], _, _, h, _ => h.elim
end
def cD1 {α : Type} [Rp α] (d : Dc α) : Cell1 := ⟨fun G o => ∃ ps, o = .dK ps ∧ RpK G ps d.l ∧ NdD d ∧ d.l.length ≤ 1000000, fun e ⟨ps, h, k, n, l⟩ => ⟨ps, h, k.mono e, n, l⟩, fun ⟨_, h, _⟩ z => by rw [h] at z; cases z⟩
abbrev cD {α : Type} [Rp α] (d : Dc α) : Cell := (cD1 d).c
instance {α : Type} [Rp α] : Rp (Dc α) := ⟨fun G v d => ∃ a ps, v = .ref a ∧ G a = some (.dK ps) ∧ RpK G ps d.l ∧ NdD d ∧ d.l.length ≤ 1000000, fun e ⟨a, ps, h1, h2, h3, h4⟩ => ⟨a, ps, h1, e _ _ h2, h3.mono e, h4⟩⟩
instance {α : Type} [Rp α] : NN (Dc α) := ⟨fun ⟨_, _, h, _⟩ => by cases h; exact fun z => nomatch z⟩
theorem W.freezeD {α : Type} [Rp α] {G0 G : Hp} {O : Own} {H : Hp} {p : Addr} {d : Dc α} (w : W G0 G ((p, cD d) :: O) H) : ∃ G2, Ex G G2 ∧ W G0 G2 O H ∧ rp G2 (.ref p) d := by
  obtain ⟨o, ⟨ps, rfl, hv, hl⟩, e, w2⟩ := w.freeze
  exact ⟨_, e, w2, p, ps, rfl, upd_same, hv.mono e, hl⟩
section
variable {α β γ δ : Type} [Rp α] [Rp β] [Rp γ] [Rp δ] {K : PySem.W.Frag} {w : World} {τ τ1 τ2 τ3 τ4 : Env} {O O1 O2 O3 O' : Own} {ta tb tc te tl tp td ty tx : TE} {t u : TT} {tr : TA} {d d' d1 d2 d3 : Dyn} {ds : List Dyn} {a b r : Int}
variable {G0 : Hp} {D : Ends} {tu tw : TS} {g g1 g2 g3 : TG} {wi : TI} {R : VK} {c c' : Cell} {Kp Kq : Own → Prop} {m m' m0 : Dc α} {k : Int} {v : α}
theorem EvC.frD (h : EvC te τ O (cD m) O') : Ev te τ O m O' := fun σ G0 G H s w Q q => h σ G0 G H s w Q fun l G2 H2 e w2 => by
  obtain ⟨G3, e3, w3, r⟩ := w2.freezeD
  exact q _ G3 H2 (e.trans e3) w3 r
theorem nx_freezeD {N : L2.St → Hp → Prop} {i k : Nat} {l : Addr} (hi : τ[i]? = some (some (dyA l))) (hk : O[k]? = some (l, cD m)) (h : Nx G0 N (τ.set i (some (dy m))) (O.eraseIdx k)) : Nx G0 N τ O := fun σ G H s w => by
  obtain ⟨G2, e, w2, r⟩ := (w.front hk).freezeD
  obtain ⟨v, hv, hd⟩ := s.get hi
  have hd : v = .ref l := hd
  subst hd
  have s2 := (s.mono e).set (d := dy m) r i
  have e2 : σ.set i (some (.ref l)) = σ := by
    apply List.ext_getElem?
    intro j
    by_cases ej : i = j
    · subst ej
      rw [List.getElem?_set_self (List.getElem?_eq_some_iff.mp hv).1, hv]
    · rw [List.getElem?_set_ne ej]
  rw [e2] at s2
  exact h σ G2 H s2 w2
def StoodD (p : Addr) (m : Dc α) (G2 : Hp) (Kp : Own → Prop) : Prop := ∀ (G0 G3 H3 : Hp) (O3 : Own), Ex G2 G3 → W G0 G3 O3 H3 → Kp O3 → ∃ ps, H3 p = some (.dK ps) ∧ RpK G3 ps m.l
def EvDr (te : TE) (τ : Env) (O : Own) (m : Dc α) (O' : Own) (Kp : Own → Prop) : Prop := ∀ (σ : L2.St) (G0 G H : Hp), Sl G σ τ → W G0 G O H → ∀ Q : VK, (∀ (p : Addr) (G2 H2 : Hp), Ex G G2 → W G0 G2 O' H2 → StoodD p m G2 Kp → m.l.length ≤ 1000000 → Q (.ref p) H2) → te σ H Q
theorem dr_fr (h : Ev te τ O m O') : EvDr te τ O m O' KT := fun σ G0 G H s w Q q => h σ G0 G H s w _ fun v G2 H2 e2 w2 ⟨p, ps, e, g, r, _, l⟩ => by
  subst e
  exact q p G2 H2 e2 w2 (fun G0 G3 H3 O3 e3 w3 _ => ⟨ps, w3.ex _ _ (e3 _ _ g), r.mono e3⟩) l
theorem dr_own {l : Addr} (k : Nat) (h : EvD te τ O (dyA l) O1) (hk : O1[k]? = some (l, cD m)) : EvDr te τ O m O1 (KO l (cD m)) := fun σ G0 G H s w Q q => h σ G0 G H s w _ fun v G2 H2 e2 w2 r2 => by
  have r2 : v = .ref l := r2
  subst r2
  obtain ⟨_, o, ho, ps, rfl, hr, hn, hl⟩ := w2.get hk
  exact q l G2 H2 e2 w2 (fun G0 G3 H3 O3 e3 w3 ⟨k3, hk3⟩ => by
    obtain ⟨_, o, ho, ps, rfl, hr, _⟩ := w3.get hk3
    exact ⟨ps, ho, hr⟩) hl
theorem StoodD.mono {p : Addr} {G G2 : Hp} (h : StoodD p m G Kp) (e : Ex G G2) : StoodD p m G2 Kp := fun G0 G3 H3 O3 e3 w k => h G0 G3 H3 O3 (e.trans e3) w k
theorem StoodD.now {p : Addr} {G0 G H : Hp} (h : StoodD p m G Kp) (w : W G0 G O H) (k : Kp O) : ∃ ps, H p = some (.dK ps) ∧ RpK G ps m.l := h G0 G H O (Ex.refl _) w k
theorem dget_at {H : Hp} {p : Addr} {ps : List (Key × V)} (h : H p = some (.dK ps)) (k : Int) : DGet H p (.int k) (valV ps (Sum.inl k)) := DGet.k (k := Sum.inl k) h
theorem ev_dget (ha : EvDr td τ O m O1 Kp) (hb : Ev ty τ O1 k O2) (hk : Kp O2) (h : atD m k = some v) : Ev (tDGet td ty) τ O v O2 := fun σ G0 G H s w Q q =>
  ha σ G0 G H s w _ fun p G2 H2 e2 w2 st _ => hb σ G0 G2 H2 (s.mono e2) w2 _ fun u G3 H3 e3 w3 r3 => by
    obtain ⟨ps, hp, hr⟩ := (st.mono e3).now w3 hk
    have r3 : u = .int k := r3
    subst r3
    have hv := hr.val k
    rw [show atDl k m.l = some v from h] at hv
    cases z : valV ps (Sum.inl k) with
    | none => rw [z] at hv; exact hv.elim
    | some y =>
      rw [z] at hv
      exact ⟨p, y, rfl, by rw [← z]; exact dget_at hp k, q y G3 H3 (e2.trans e3) w3 hv⟩
theorem RpO.some_eq {G : Hp} {o : Option V} {x : Option α} (h : RpO G o x) : o.isSome = x.isSome := by
  cases o <;> cases x <;> first | rfl | exact h.elim
theorem ev_din (hb : Ev ty τ O k O1) (ha : EvDr td τ O1 m O2 Kp) (hk : Kp O2) : Ev (tDIn ty td) τ O (hasD m k) O2 := fun σ G0 G H s w Q q =>
  hb σ G0 G H s w _ fun u G2 H2 e2 w2 r2 => ha σ G0 G2 H2 (s.mono e2) w2 _ fun p G3 H3 e3 w3 st _ => by
    obtain ⟨ps, hp, hr⟩ := st.now w3 hk
    have r2 : u = .int k := r2
    subst r2
    refine ⟨p, _, rfl, dget_at hp k, ?_⟩
    rw [(hr.val k).some_eq]
    exact q _ G3 H3 (e2.trans e3) w3 rfl
theorem ev_dnotin (hb : Ev ty τ O k O1) (ha : EvDr td τ O1 m O2 Kp) (hk : Kp O2) : Ev (tDNotIn ty td) τ O (!hasD m k) O2 := fun σ G0 G H s w Q q =>
  hb σ G0 G H s w _ fun u G2 H2 e2 w2 r2 => ha σ G0 G2 H2 (s.mono e2) w2 _ fun p G3 H3 e3 w3 st _ => by
    obtain ⟨ps, hp, hr⟩ := st.now w3 hk
    have r2 : u = .int k := r2
    subst r2
    refine ⟨p, _, rfl, dget_at hp k, ?_⟩
    rw [(hr.val k).some_eq]
    exact q _ G3 H3 (e2.trans e3) w3 rfl
theorem isD_of {H : Hp} {p : Addr} {ps : List (Key × V)} (h : H p = some (.dK ps)) : IsD H p := .inl ⟨ps, .inl h⟩
theorem ev_dget2 (ha : EvDr td τ O m O1 Kp) (hb : Ev ty τ O1 k O2) (hc : Ev tx τ O2 v O3) (hk1 : Kp O1) (hk : Kp O3) : Ev (tDGet2 td ty tx) τ O (getD m k v) O3 := fun σ G0 G H s w Q q =>
  ha σ G0 G H s w _ fun p G2 H2 e2 w2 st _ => by
    obtain ⟨ps0, hp0, _⟩ := st.now w2 hk1
    refine ⟨p, rfl, isD_of hp0, hb σ G0 G2 H2 (s.mono e2) w2 _ fun u G3 H3 e3 w3 r3 => hc σ G0 G3 H3 ((s.mono e2).mono e3) w3 _ fun y G4 H4 e4 w4 r4 => ?_⟩
    obtain ⟨ps, hp, hr⟩ := ((st.mono e3).mono e4).now w4 hk
    have r3 : u = .int k := r3
    subst r3
    refine ⟨_, dget_at hp k, ?_⟩
    have hv := hr.val k
    unfold DL.getD atD at q
    cases z : valV ps (Sum.inl k) with
    | none =>
      rw [z] at hv
      cases z2 : atDl k m.l with
      | none => exact q y G4 H4 ((e2.trans e3).trans e4) w4 (by rw [z2]; exact r4)
      | some _ => rw [z2] at hv; exact hv.elim
    | some x =>
      rw [z] at hv
      cases z2 : atDl k m.l with
      | none => rw [z2] at hv; exact hv.elim
      | some _ =>
        rw [z2] at hv
        exact q x G4 H4 ((e2.trans e3).trans e4) w4 (by rw [z2]; exact hv)
abbrev rLenD : List V → Hp → VK → Prop := fun xs H Q => ∃ a kvs, xs = [V.ref a] ∧ H a = some (.dK kvs) ∧ Q (.int kvs.length) H
theorem ev_dlen (ha : EvDr td τ O m O1 Kp) (hk : Kp O1) : Ev (tCB rLenD (tCons td tNil)) τ O (lenD m) O1 := fun σ G0 G H s w Q q =>
  ha σ G0 G H s w _ fun p G2 H2 e2 w2 st _ => by
    obtain ⟨ps, hp, hr⟩ := st.now w2 hk
    exact ⟨p, ps, rfl, hp, q _ G2 H2 e2 w2 (by rw [hr.length]; rfl)⟩
/-- list(d) -/
theorem en_dlist (ha : EvDr td τ O m O1 Kp) (hk : Kp O1) : EvN (tCB rListD (tCons td tNil)) τ O (keysD m) O1 := fun σ G0 G H s w Q q =>
  ha σ G0 G H s w _ fun p G2 H2 e2 w2 st hl => by
    obtain ⟨ps, hp, hr⟩ := st.now w2 hk
    exact ⟨p, ps, rfl, hp, fun l hl' => q l G2 _ e2 (w2.alloc (c := cL1 (keysD m)) hl' ⟨_, rfl, by rw [hr.keys]; exact RpL.ofInts, by unfold keysD; rw [List.length_map]; exact hl⟩)⟩
theorem ec_dnew : EvC tDNewK τ O (cD (emptyD : Dc α)) O := fun σ G0 G H s w Q q p hp => q p G _ (Ex.refl _) (w.alloc (c := cD1 (emptyD : Dc α)) hp ⟨[], rfl, trivial, List.nodup_nil, Nat.zero_le _⟩)
/-- d[k] = v -/
theorem nx_dput {l : Addr} (j : Nat) (hv : Ev te τ O v O1) (hp : EvD tp τ O1 (dyA l) O2) (hb : Ev ty τ O2 k O3) (hk : O3[j]? = some (l, cD m)) (hz : putD m k v = some m') (q : Nx G0 D.nx τ (O3.set j (l, cD m'))) :
    Nx G0 (sDPut tp ty te D) τ O := fun σ G H s w => by
  unfold putD at hz
  split at hz
  next hc =>
    cases hz
    have hc : m.l.length < 1000000 := hc
    refine hv σ G0 G H s w _ fun x G1 H1 e1 w1 r1 => hp σ G0 G1 H1 (s.mono e1) w1 _ fun y G2 H2 e2 w2 r2 => hb σ G0 G2 H2 ((s.mono e1).mono e2) w2 _ fun u G3 H3 e3 w3 r3 => ?_
    have r2 : y = .ref l := r2
    have r3 : u = .int k := r3
    subst r2
    subst r3
    obtain ⟨_, o, ho, ps, rfl, hr, hn, hl⟩ := w3.get hk
    refine ⟨l, _, rfl, DPut.k (k := Sum.inl k) ho (Nat.lt_of_lt_of_le (by rw [hr.length]; exact hc) (by decide)), ?_⟩
    refine q σ G3 _ (((s.mono e1).mono e2).mono e3) (w3.put (c' := cD1 ⟨putDl k v m.l⟩) hk ⟨_, rfl, hr.put (Rp.mono (e2.trans e3) r1) hn, putDl_nd hn, ?_⟩)
    have := putDl_len (k := k) (v := v) m.l
    show (putDl k v m.l).length ≤ 1000000
    omega
  next => cases hz
/-- d.pop(k) -/
theorem ev_dpop {l : Addr} {x : α × Dc α} (j : Nat) (hp : EvD tp τ O (dyA l) O1) (hk0 : O1[j]? = some (l, cD m0)) (hb : Ev ty τ O1 k O2) (hk : O2[j]? = some (l, cD m)) (hz : popD m k = some x) : Ev (tDPop1 tp ty) τ O x.1 (O2.set j (l, cD x.2)) := fun σ G0 G H s w Q q => by
  obtain ⟨v, hv, rfl⟩ := mE hz
  refine hp σ G0 G H s w _ fun y G1 H1 e1 w1 r1 => ?_
  have r1 : y = .ref l := r1
  subst r1
  obtain ⟨_, o, ho, ps, rfl, _⟩ := w1.get hk0
  refine ⟨l, rfl, isD_of ho, hb σ G0 G1 H1 (s.mono e1) w1 _ fun u G2 H2 e2 w2 r2 => ?_⟩
  have r2 : u = .int k := r2
  subst r2
  obtain ⟨_, o2, ho2, qs, rfl, hr, hn, hl⟩ := w2.get hk
  have hv2 := hr.val k
  rw [show atDl k m.l = some v from hv] at hv2
  cases z : valV qs (Sum.inl k) with
  | none => rw [z] at hv2; exact hv2.elim
  | some y =>
    rw [z] at hv2
    refine ⟨qs, Sum.inl k, y, ho2, rfl, z, q y G2 _ (e1.trans e2) (w2.put (c' := cD1 (dropD m k)) hk ⟨_, rfl, hr.drop, ?_, ?_⟩) hv2⟩
    · unfold NdD keysD dropD
      exact List.Nodup.sublist (List.Sublist.map _ List.filter_sublist) hn
    · exact Nat.le_trans (List.length_filter_le ..) hl
end
theorem kc_lenD {X : Cx} : CallR X (.builtin "len") rLenD := call_lenD
end DL
end
section
namespace DL
open PySem PySem.Spec PyProof.Rows L2
open Rp (rp)
section
variable {α β γ δ : Type} [Rp α] [Rp β] [Rp γ] [Rp δ] {K : PySem.W.Frag} {w : World} {τ τ1 τ2 τ3 τ4 : Env} {O O1 O2 O3 O' : Own} {ta tb tc te tl tp td ty tx : TE} {t u : TT} {tr : TA} {d d' d1 d2 d3 : Dyn} {ds : List Dyn} {a b r x : Int}
variable {G0 : Hp} {D : Ends} {tu tw : TS} {g1 g2 g3 : TG} {wi : TI} {R : VK} {c c' : Cell} {Kp Kq : Own → Prop} {cs : List Cell} {dd : List Addr → Dyn}
theorem ev_chain {g g2 : Int → Int → Bool} (ha : Ev ta τ O a O1) (hb : Ev tb τ O1 b O2) (hc : Ev tc τ O2 x O2) : Ev (tChain (rI0 fun i j => .bl (g i j)) (rI0 fun i j => .bl (g2 i j)) ta tb tc) τ O (g a b && g2 b x) O2 := fun σ G0 G H s w Q q =>
  ha σ G0 G H s w _ fun v G2 H2 e2 w2 r2 => hb σ G0 G2 H2 (s.mono e2) w2 _ fun v3 G3 H3 e3 w3 r3 => ⟨a, b, r2, r3, g a b, rfl, by
    cases e : g a b with
    | true =>
      rw [if_pos rfl]
      refine hc σ G0 G3 H3 ((s.mono e2).mono e3) w3 _ fun v4 G4 H4 e4 w4 r4 => ⟨b, x, r3, r4, ?_⟩
      exact q _ G4 H4 ((e2.trans e3).trans e4) w4 (by rw [e]; rfl)
    | false =>
      rw [if_neg (by simp)]
      exact q _ G3 H3 (e2.trans e3) w3 (by rw [e]; rfl)⟩
theorem ev_lenD2 (ha : EvD ta τ O (dyT2 d1 d2) O1) : Ev (tCB (rLenS K) (tCons ta tNil)) τ O (2 : Int) O1 := fun σ G0 G H s w Q q =>
  ha σ G0 G H s w _ fun v G2 H2 e2 w2 ⟨t, v1, v2, h, g, _, _⟩ => ⟨t, [v1, v2], by rw [h], .inr (.inl (.inl (w2.ex _ _ g))), q _ G2 H2 e2 w2 rfl⟩
theorem ev_lenD3 (ha : EvD ta τ O (dyT3 d1 d2 d3) O1) : Ev (tCB (rLenS K) (tCons ta tNil)) τ O (3 : Int) O1 := fun σ G0 G H s w Q q =>
  ha σ G0 G H s w _ fun v G2 H2 e2 w2 ⟨t, v1, v2, v3, h, g, _, _, _⟩ => ⟨t, [v1, v2, v3], by rw [h], .inr (.inl (.inl (w2.ex _ _ g))), q _ G2 H2 e2 w2 rfl⟩
theorem ev_lenN {l : Addr} {xss : List (List α)} (k : Nat) (h : EvD te τ O (dyA l) O1) (hk : O1[k]? = some (l, cN xss)) : Ev (tCB (rLenS K) (tCons te tNil)) τ O (lenI xss) O1 := fun σ G0 G H s w Q q =>
  h σ G0 G H s w _ fun v G2 H2 e2 w2 r2 => by
    have r2 : v = .ref l := r2
    subst r2
    obtain ⟨vs, ho, hr, _⟩ := (w2.front hk).lookN
    exact ⟨l, vs, rfl, .inl (.inl (.inl ho)), q _ G2 H2 e2 w2 (by rw [hr.length]; rfl)⟩
theorem er_ownD {m : Dc α} {l : Addr} (k : Nat) (h : EvD te τ O (dyA l) O1) (hk : O1[k]? = some (l, cD m)) : EvR te τ O (dy m) O1 (KO l (cD m)) := fun σ G0 G H s w Q q => h σ G0 G H s w _ fun v G2 H2 e2 w2 r2 => by
  have r2 : v = .ref l := r2
  subst r2
  exact q _ G2 H2 e2 w2 fun G0 G3 H3 O3 e3 w3 ⟨k3, hk3⟩ => by
    obtain ⟨_, o, ho, vs, rfl, hr, hn, hl⟩ := w3.get hk3
    exact ⟨l, vs, rfl, ho, hr.mono w3.ex, hn, hl⟩
theorem er_mapS {xs : List α} (h : EvR te τ O (dy xs) O1 Kp) : EvR te τ O (dy (xs.map Option.some)) O1 Kp := fun σ G0 G H s w Q q => h σ G0 G H s w _ fun v G2 H2 e2 w2 r2 =>
  q v G2 H2 e2 w2 fun G0 G3 H3 O3 e3 w3 k => by
    obtain ⟨a, vs, h1, h2, h3, h4⟩ := r2 G0 G3 H3 O3 e3 w3 k
    exact ⟨a, vs, h1, h2, h3.some, by rw [List.length_map]; exact h4⟩
/-! two own arguments -/
theorem perm2 {p1 p2 : Addr × Cell} {q1 q2 : Addr × Cell} {k1 k2 j : Nat} (h1 : O[k1]? = some p1) (h2 : (O.eraseIdx k1)[j]? = some p2) (he : (O.set k2 q2).eraseIdx k1 = (O.eraseIdx k1).set j q2) :
    (O.Perm (p1 :: p2 :: (O.eraseIdx k1).eraseIdx j)) ∧ (q1 :: q2 :: (O.eraseIdx k1).eraseIdx j).Perm ((O.set k2 q2).set k1 q1) := by
  refine ⟨(perm_front h1).symm.trans ((perm_front h2).symm.cons p1), ?_⟩
  have a1 := (perm_back (p := q2) (List.getElem?_eq_some_iff.mp h2).1).cons q1
  have a2 := perm_back (p := q1) (O := O.set k2 q2) (k := k1) (by rw [List.length_set]; exact (List.getElem?_eq_some_iff.mp h1).1)
  rw [he] at a2
  exact a1.trans a2
variable {c1 c2 c1' c2' : Cell} {B1 B2 : Addr}
theorem ev_callK2 {S : Spec} {E : XK} (k1 k2 j : Nat) (h : EvA tr τ O ds O1) (h1 : O1[k1]? = some (B1, c1)) (h2 : (O1.eraseIdx k1)[j]? = some (B2, c2)) (he : (O1.set k2 (B2, c2')).eraseIdx k1 = (O1.eraseIdx k1).set j (B2, c2')) (hs : S ds ((B1, c1) :: (B2, c2) :: (O1.eraseIdx k1).eraseIdx j) (.fro d) ((B1, c1') :: (B2, c2') :: (O1.eraseIdx k1).eraseIdx j)) : EvD (tCall (sp S) [] E tr) τ O d ((O1.set k2 (B2, c2')).set k1 (B1, c1')) := fun σ G0 G H s w Q q =>
  h σ G0 G H s w _ fun vs G2 H2 e2 w2 r2 => by
    rw [List.append_nil]
    obtain ⟨p1, p2⟩ := perm2 (q1 := (B1, c1')) h1 h2 he
    exact ⟨G2, ds, _, .fro d, _, r2, (w2.perm p1).start, hs, fun v G3 H3 w3 r3 => q v G3 H3 (e2.trans w3.base) ((w2.back w3).perm p2) r3⟩
theorem ec_callK2 {S : Spec} {E : XK} {cr : Cell} (k1 k2 j : Nat) (h : EvA tr τ O ds O1) (h1 : O1[k1]? = some (B1, c1)) (h2 : (O1.eraseIdx k1)[j]? = some (B2, c2)) (he : (O1.set k2 (B2, c2')).eraseIdx k1 = (O1.eraseIdx k1).set j (B2, c2')) (hs : S ds ((B1, c1) :: (B2, c2) :: (O1.eraseIdx k1).eraseIdx j) (.new cr) ((B1, c1') :: (B2, c2') :: (O1.eraseIdx k1).eraseIdx j)) : EvC (tCall (sp S) [] E tr) τ O cr ((O1.set k2 (B2, c2')).set k1 (B1, c1')) := fun σ G0 G H s w Q q =>
  h σ G0 G H s w _ fun vs G2 H2 e2 w2 r2 => by
    rw [List.append_nil]
    obtain ⟨p1, p2⟩ := perm2 (q1 := (B1, c1')) h1 h2 he
    exact ⟨G2, ds, _, .new cr, _, r2, (w2.perm p1).start, hs, fun v G3 H3 w3 => q v G3 H3 (e2.trans w3.base) ((w2.back w3).perm (p2.cons _))⟩
theorem eo_callK2 {S : Spec} {E : XK} (k1 k2 j : Nat) (h : EvA tr τ O ds O1) (h1 : O1[k1]? = some (B1, c1)) (h2 : (O1.eraseIdx k1)[j]? = some (B2, c2)) (he : (O1.set k2 (B2, c2')).eraseIdx k1 = (O1.eraseIdx k1).set j (B2, c2')) (hs : S ds ((B1, c1) :: (B2, c2) :: (O1.eraseIdx k1).eraseIdx j) (.own cs dd) ((B1, c1') :: (B2, c2') :: (O1.eraseIdx k1).eraseIdx j)) : EvU (tCall (sp S) [] E tr) τ O cs dd ((O1.set k2 (B2, c2')).set k1 (B1, c1')) := fun σ G0 G H s w Q q =>
  h σ G0 G H s w _ fun vs G2 H2 e2 w2 r2 => by
    rw [List.append_nil]
    obtain ⟨p1, p2⟩ := perm2 (q1 := (B1, c1')) h1 h2 he
    exact ⟨G2, ds, _, .own cs dd, _, r2, (w2.perm p1).start, hs, fun as v G3 H3 hl w3 r3 => q as v G3 H3 hl (e2.trans w3.base) ((w2.back w3).perm (p2.append_left _)) r3⟩
/-- xss.append(xs), xs a list of one's own with a name -/
theorem nx_move {l l2 : Addr} {xss yss : List (List α)} {ys : List α} (k k2 kk : Nat) (hp : EvD tp τ O (dyA l) O) (he : EvD te τ O (dyA l2) O) (hk : O[k]? = some (l, cN xss)) (hk2 : O[k2]? = some (l2, cL ys)) (hkk : (O.eraseIdx k2)[kk]? = some (l, cN xss)) (hz : appO xss ys = some yss) (q : Nx G0 D.nx τ ((O.eraseIdx k2).set kk (l, cN yss))) :
    Nx G0 (tDrop (tBM K "list" rAppend tp (tCons te tNil)) D) τ O := fun σ G H s w => by
  obtain ⟨rfl, hl⟩ := appO_ok hz
  refine hp σ G0 G H s w _ fun v G1 H1 e1 w1 r1 => ?_
  have r1 : v = .ref l := r1
  subst r1
  obtain ⟨vs, ho, _, _⟩ := (w1.front hk).lookN
  refine ⟨.inl ⟨rfl, vs, .inl (.inl ho)⟩, he σ G0 G1 H1 (s.mono e1) w1 _ fun v2 G2 H2 e2 w2 r2 => ?_⟩
  have r2 : v2 = .ref l2 := r2
  subst r2
  have w3 : W G0 G2 ((l2, cL ys) :: (l, cN xss) :: (O.eraseIdx k2).eraseIdx kk) H2 := (w2.front hk2).perm ((perm_front hkk).symm.cons _)
  obtain ⟨as, hL, hla, fin⟩ := w3.push
  have hlt : as.length < 1000000 := by rw [hla, List.length_map]; exact hl
  refine ⟨l, _, .ref l2, rfl, rfl, hL, Nat.lt_of_lt_of_le (by rw [List.length_map]; exact hlt) (by decide), ?_⟩
  refine q σ G2 _ ((s.mono e1).mono e2) ?_
  have w4 := fin hlt
  have e4 : xss.map cL ++ [cL ys] = (xss ++ [ys]).map cL := by rw [List.map_append]; rfl
  rw [e4] at w4
  exact w4.perm (perm_back (List.getElem?_eq_some_iff.mp hkk).1)
theorem nx_join1 {τJ : Addr → Env} {OJ : Addr → Own} (hk : ∀ a, Nx G0 (tw D) (τJ a) (OJ a)) (h : (∀ a, Nx G0 (tw D) (τJ a) (OJ a)) → Nx G0 (tu { D with nx := tw D }) τ O) : Nx G0 (tSeq tu tw D) τ O := h hk
theorem nx_join2 {τJ : Addr → Addr → Env} {OJ : Addr → Addr → Own} (hk : ∀ a b, Nx G0 (tw D) (τJ a b) (OJ a b)) (h : (∀ a b, Nx G0 (tw D) (τJ a b) (OJ a b)) → Nx G0 (tu { D with nx := tw D }) τ O) : Nx G0 (tSeq tu tw D) τ O := h hk
theorem nx_fall {Q : VK} (k : RtD G0 Q (dy ()) O) : Nx G0 (Fin Q).nx τ O := fun σ G H s w => k _ G H w rfl
/-! "1" + "0" * n, as a number -/
abbrev rRepS : V → V → Hp → VK → Prop := fun x y H Q => ∃ (i : Str) (n : Int), x = .str i ∧ y = .int n ∧ MulOk i n ∧ Q (.str (Txt.mul i n)) H
abbrev rCatS : V → V → Hp → VK → Prop := fun x y H Q => ∃ i j, x = .str i ∧ y = .str j ∧ i.length + j.length ≤ sizeLine ∧ Q (.str (i ++ j)) H
abbrev rIntS : List V → Hp → VK → Prop := fun xs H Q => ∃ a n, xs = [.str a] ∧ PySem.intText? a = some n ∧ a.length ≤ 640 ∧ Q (.int n) H
theorem unit_txt : ∀ n : Nat, n < 17 → MulOk "0" (n : Int) ∧ PySem.intText? (("1" : Str) ++ Txt.mul "0" (n : Int)) = some (10 ^ n) ∧ (("1" : Str) ++ Txt.mul "0" (n : Int)).length ≤ 640 ∧ ("1" : Str).length + (Txt.mul "0" (n : Int)).length ≤ 1000000 := by
  have dec : ∀ n : Nat, n < 17 → ((decide ((n : Int) < -(2 ^ 63 : Int)) || decide ((n : Int) ≥ 2 ^ 63)) = false) := fun n h => by
    rw [decide_eq_false (by omega), decide_eq_false (by omega)]
    rfl
  have key : ∀ m ∈ List.range 17, ((¬ (m : Int) < 1 → ((m : Int) == 1 || ("0" : Str).length == 0) = false → ¬ (((("0" : Str).length : Nat) : Int) > (2 ^ 63 - 1) / (m : Int)))) ∧ ((¬ (m : Int) < 1 → ((m : Int) == 1 || ("0" : Str).length == 0) = false → Builtin.Str.tooLong (("0" : Str).length * (m : Int).toNat) = false)) ∧ PySem.intText? (("1" : Str) ++ Txt.mul "0" (m : Int)) = some (10 ^ m) ∧ (("1" : Str) ++ Txt.mul "0" (m : Int)).length ≤ 640 ∧ ("1" : Str).length + (Txt.mul "0" (m : Int)).length ≤ 1000000 := by decide +kernel
  intro n hn
  obtain ⟨k1, k2, k3, k4, k5⟩ := key n (List.mem_range.mpr hn)
  exact ⟨⟨dec n hn, k1, k2⟩, k3, k4, k5⟩
theorem ev_unit10 (ha : Ev ta τ O a O1) (h : unitO a = some b) : Ev (tCB rIntS (tCons (tOp rCatS (tC (.str "1")) (tOp rRepS (tC (.str "0")) ta)) tNil)) τ O b O1 := fun σ G0 G H s w Q q => by
  unfold unitO at h
  split at h
  next hc =>
    cases h
    have h1 := unit_txt a.toNat (by omega)
    rw [show ((a.toNat : Nat) : Int) = a by omega] at h1
    obtain ⟨h1, h2, h3, h4⟩ := h1
    refine ha σ G0 G H s w _ fun v G2 H2 e2 w2 r2 => ⟨"0", a, rfl, r2, h1, "1", _, rfl, rfl, sz_small h4, _, _, rfl, h2, h3, q _ G2 H2 e2 w2 rfl⟩
  next => cases h
end
theorem op_repS {X : Cx} : OpR X (binaryOp .Mult) rRepS := by
  intro pins s σ H x y v u Q I rx ry h
  obtain ⟨i, n, rfl, rfl, hz, q⟩ := h
  obtain ⟨t, rfl⟩ := rx
  obtain ⟨t', rfl⟩ := ry
  exact PySem.SB.mul hz (fun t' tk => ⟨.str (Txt.mul i n), H, I.tok _, ⟨_, rfl⟩, q⟩)
end DL
end
section
namespace DL
open PySem PySem.Spec PyProof.Rows L2
open Rp (rp)
open Dt (toD)
/-! ### tuples of one or two, texts as data -/
instance {α β : Type} [Rp α] [Rp β] : Rp (T12 α β) := ⟨fun G v x => ∃ t, v = .ref t ∧ match x.b with
    | none => ∃ v1, G t = some (.tup [v1]) ∧ rp G v1 x.a
    | some y => ∃ v1 v2, G t = some (.tup [v1, v2]) ∧ rp G v1 x.a ∧ rp G v2 y, fun {G G' v x} e ⟨t, h, k⟩ => ⟨t, h, by
  obtain ⟨a, b⟩ := x
  cases b with
  | none =>
    obtain ⟨v1, g, h1⟩ := k
    exact ⟨v1, e _ _ g, Rp.mono e h1⟩
  | some y =>
    obtain ⟨v1, v2, g, h1, h2⟩ := k
    exact ⟨v1, v2, e _ _ g, Rp.mono e h1, Rp.mono e h2⟩⟩⟩
instance {α β : Type} [Rp α] [Rp β] : NN (T12 α β) := ⟨fun ⟨_, h, _⟩ => by cases h; exact fun z => nomatch z⟩
instance {α β : Type} [Rp α] [Rp β] [Tp α] [Tp β] : Tp (T12 α β) := ⟨fun {G G' v x} e ⟨t, h, k⟩ => ⟨t, h, by
  obtain ⟨a, b⟩ := x
  cases b with
  | none =>
    obtain ⟨v1, g, h1⟩ := k
    exact ⟨v1, e _ _ g, Tp.tp e h1⟩
  | some y =>
    obtain ⟨v1, v2, g, h1, h2⟩ := k
    exact ⟨v1, v2, e _ _ g, Tp.tp e h1, Tp.tp e h2⟩⟩⟩
def wds (x : Wd) : Str := Str.ofString x.s
theorem wds_ok (x : Wd) : PyData.strOk (wds x) = true := by
  unfold wds PyData.strOk
  rw [Str.ofString_eq_toList, Array.all_eq_true]
  intro i hi
  rw [List.getElem_toArray, List.getElem_map]
  rw [decide_eq_true_eq]
  have := (x.s.toList[i]'(by simpa using hi)).valid
  rcases this with h | h
  · have : (x.s.toList[i]'(by simpa using hi)).toNat < 0xd800 := h
    omega
  · exact h.2
theorem wds_inj {x y : Wd} (h : wds x = wds y) : x = y := by
  unfold wds at h
  rw [Str.ofString_eq_toList, Str.ofString_eq_toList] at h
  have h1 := Str.mk.inj h
  have h2 : x.s.toList.map Char.toNat = y.s.toList.map Char.toNat := by simpa using h1
  have h3 : x.s.toList = y.s.toList := List.map_inj_right (fun a b e => Char.toNat_inj.mp e) |>.mp h2
  cases x
  cases y
  congr 1
  exact String.toList_inj.mp h3
instance : Rp Wd := ⟨fun _ v x => v = .str (wds x), fun _ h => h⟩
instance : Sc Wd := ⟨fun {G v u x y} h k => by
  have h : v = .str (wds x) := h
  have k : u = .str (wds y) := k
  subst h
  subst k
  refine ⟨rfl, fun e => ?_, fun e => by rw [e]⟩
  exact wds_inj (V.str.inj e)⟩
instance : NN Wd := ⟨fun {G v x} h => by
  have h : v = .str (wds x) := h
  rw [h]
  exact fun z => nomatch z⟩
instance : Tp Wd := ⟨fun _ h => h⟩
instance : Ty Wd := ⟨"str", fun {K G v x} h => by
  have h : v = .str (wds x) := h
  rw [h]
  exact .base (.str _)⟩
instance : Dt Wd := ⟨fun x => .str (wds x), 0, fun {K G v x} h => by
  have h : v = .str (wds x) := h
  rw [h]
  exact .str _, fun {G v x} h => ⟨by simp [PyData.canLay0, wds_ok], by simp [PyData.depth]⟩⟩
instance : Dz Wd := ⟨fun x => by show PyData.eqv (.str _) .none = false ∧ PyData.eqv .none (.str _) = false; simp [PyData.eqv]⟩
instance : De Wd := ⟨fun x y => by
  show PyData.eqv (.str (wds x)) (.str (wds y)) = _
  rw [PyData.eqv]
  by_cases e : x = y
  · subst e
    simp
  · have : ¬ wds x = wds y := fun z => e (wds_inj z)
    simp [e, this]⟩
instance : Dl Wd := ⟨fun {G v x} h => by
  have h : v = .str (wds x) := h
  rw [h]
  exact .str _, fun x => by show PyData.depth (.str _) ≤ _; simp [PyData.depth]⟩
instance : Da Wd := ⟨fun n x y _ => by
  show alikeN n (.str (wds x)) (.str (wds y)) = _
  rw [alike_scal rfl]
  show (true && true && (true && PyData.eqv (.str (wds x)) (.str (wds y)))) = _
  rw [show PyData.eqv (.str (wds x)) (.str (wds y)) = decide (x = y) from De.de x y]
  simp⟩
theorem ev_wd {τ : Env} {O : Own} (s : String) : Ev (tC (.str (Str.ofString s))) τ O (Wd.mk s) O := fun σ G0 G H s w Q q => q _ G H (Ex.refl _) w rfl
instance {α : Type} [Rp α] [Dt α] : Dt (T1 α) := ⟨fun x => .tuple [toD x.a], Dt.dn α + 1, fun ⟨t, v1, h, g, h1⟩ => by
  subst h
  exact .tup (.inl (.inl g)) (.cons (Dt.dp h1) .nil), fun ⟨t, v1, h, g, h1⟩ => by
  obtain ⟨a1, b1⟩ := Dt.sh h1
  exact ⟨by simp only [PyData.canLay0, PyData.canLayAll0, a1]; rfl, by simp only [PyData.depth, PyData.depthAll]; omega⟩⟩
instance {α : Type} [Rp α] [Dt α] : Dz (T1 α) := ⟨fun x => by show PyData.eqv (.tuple _) .none = false ∧ PyData.eqv .none (.tuple _) = false; simp [PyData.eqv]⟩
instance {α : Type} [Rp α] [Dt α] [DecidableEq α] [De α] : De (T1 α) := ⟨fun x y => by
  show PyData.eqv (.tuple _) (.tuple _) = _
  obtain ⟨a⟩ := x
  obtain ⟨c⟩ := y
  simp only [PyData.eqv, PyData.eqvAll, De.de, T1.mk.injEq, Bool.and_true]⟩
instance {α : Type} [Rp α] [Dt α] [Dl α] : Dl (T1 α) := ⟨fun ⟨t, v1, h, g, h1⟩ => by
  subst h
  exact .tup g (.cons (Dl.pd h1) .nil) (show 1 ≤ 1000000 by decide), fun x => by
  show PyData.depth (.tuple [toD x.a]) ≤ Dt.dn α + 1
  simp only [PyData.depth, PyData.depthAll]
  have := Dl.dep x.a
  omega⟩
instance {α : Type} [Rp α] [Dt α] [DecidableEq α] [Da α] : Da (T1 α) := ⟨fun n x y hd => by
  obtain ⟨a⟩ := x
  obtain ⟨c⟩ := y
  have hd : PyData.depth (.tuple [toD c]) ≤ n := hd
  simp only [PyData.depth, PyData.depthAll] at hd
  show alikeN n (.tuple [toD a]) (.tuple [toD c]) = _
  cases n with
  | zero => omega
  | succ n =>
    show (true && (alikeN n (toD a) (toD c) && true)) = _
    rw [Da.al n a c (by omega)]
    by_cases e : a = c <;> simp [e]⟩
def toD12 {α β : Type} [Rp α] [Rp β] [Dt α] [Dt β] (x : T12 α β) : PyData := match x.b with
  | none => .tuple [toD x.a]
  | some y => .tuple [toD x.a, toD y]
instance {α β : Type} [Rp α] [Rp β] [Dt α] [Dt β] : Dt (T12 α β) := ⟨toD12, max (Dt.dn α) (Dt.dn β) + 1, fun {K G v x} ⟨t, h, k⟩ => by
  subst h
  obtain ⟨a, b⟩ := x
  cases b with
  | none =>
    obtain ⟨v1, g, h1⟩ := k
    exact .tup (.inl (.inl g)) (.cons (Dt.dp h1) .nil)
  | some y =>
    obtain ⟨v1, v2, g, h1, h2⟩ := k
    exact .tup (.inl (.inl g)) (.cons (Dt.dp h1) (.cons (Dt.dp h2) .nil)), fun {G v x} ⟨t, h, k⟩ => by
  obtain ⟨a, b⟩ := x
  cases b with
  | none =>
    obtain ⟨v1, g, h1⟩ := k
    obtain ⟨a1, b1⟩ := Dt.sh h1
    exact ⟨by simp only [toD12, PyData.canLay0, PyData.canLayAll0, a1]; rfl, by have b1 : (toD a).depth ≤ Dt.dn α := b1; simp only [toD12, PyData.depth, PyData.depthAll]; omega⟩
  | some y =>
    obtain ⟨v1, v2, g, h1, h2⟩ := k
    obtain ⟨a1, b1⟩ := Dt.sh h1
    obtain ⟨a2, b2⟩ := Dt.sh h2
    exact ⟨by simp only [toD12, PyData.canLay0, PyData.canLayAll0, a1, a2]; rfl, by have b1 : (toD a).depth ≤ Dt.dn α := b1; have b2 : (toD y).depth ≤ Dt.dn β := b2; simp only [toD12, PyData.depth, PyData.depthAll]; omega⟩⟩
instance {α β : Type} [Rp α] [Rp β] [Dt α] [Dt β] : Dz (T12 α β) := ⟨fun x => by
  obtain ⟨a, b⟩ := x
  cases b <;> (show PyData.eqv (.tuple _) .none = false ∧ PyData.eqv .none (.tuple _) = false; simp [PyData.eqv])⟩
instance {α β : Type} [Rp α] [Rp β] [Dt α] [Dt β] [DecidableEq α] [DecidableEq β] [De α] [De β] : De (T12 α β) := ⟨fun x y => by
  obtain ⟨a, b⟩ := x
  obtain ⟨c, d⟩ := y
  cases b <;> cases d <;> (show PyData.eqv (.tuple _) (.tuple _) = _; simp only [PyData.eqv, PyData.eqvAll, De.de, T12.mk.injEq, Bool.and_true])
  · simp
  · simp
  · simp
  · next x y =>
    by_cases e : a = c <;> by_cases f : x = y <;> simp [e, f]⟩
instance {α β : Type} [Rp α] [Rp β] : Ty (T12 α β) := ⟨"tuple", fun {K G v x} ⟨t, h, k⟩ => by
  subst h
  obtain ⟨a, b⟩ := x
  cases b with
  | none =>
    obtain ⟨v1, g, h1⟩ := k
    exact .base (.tup g)
  | some y =>
    obtain ⟨v1, v2, g, h1, h2⟩ := k
    exact .base (.tup g)⟩
instance {α : Type} [Rp α] : Ty (T1 α) := ⟨"tuple", fun ⟨t, v1, h, g, h1⟩ => by subst h; exact .base (.tup g)⟩
section
variable {α β γ δ : Type} [Rp α] [Rp β] [Rp γ] [Rp δ] {K : PySem.W.Frag} {w : World} {τ τ1 τ2 τ3 τ4 : Env} {O O1 O2 O3 O' : Own} {ta tb tc te tl tp td ty tx : TE} {t u : TT} {tr : TA} {d d' d1 d2 d3 : Dyn} {ds : List Dyn} {a b r : Int}
variable {G0 : Hp} {D : Ends} {tu tw : TS} {g g1 g2 g3 : TG} {wi : TI} {R : VK} {c c' : Cell} {Kp Kq : Own → Prop} {cs : List Cell} {dd : List Addr → Dyn}
theorem ev_t12a {x : α} (h : EvA tr τ O [dy x] O1) : Ev (tTup tr) τ O (T12.mk x (none : Option β)) O1 := fun σ G0 G H s w Q q =>
  h σ G0 G H s w _ fun vs G2 H2 e2 w2 r2 => match vs, r2 with
    | [v1], ⟨r1, _⟩ => ⟨by show 1 ≤ sizeLine; decide, fun p hp => by
      obtain ⟨e3, w3⟩ := w2.grow (o := .tup [v1]) hp
      exact q _ _ _ (e2.trans e3) w3 ⟨p, rfl, v1, upd_same, Rp.mono e3 r1⟩⟩
theorem ev_t12b {x : α} {y : β} (h : EvA tr τ O [dy x, dy y] O1) : Ev (tTup tr) τ O (T12.mk x (some y)) O1 := fun σ G0 G H s w Q q =>
  h σ G0 G H s w _ fun vs G2 H2 e2 w2 r2 => match vs, r2 with
    | [v1, v2], ⟨r1, r3, _⟩ => ⟨by show 2 ≤ sizeLine; decide, fun p hp => by
      obtain ⟨e3, w3⟩ := w2.grow (o := .tup [v1, v2]) hp
      exact q _ _ _ (e2.trans e3) w3 ⟨p, rfl, v1, v2, upd_same, Rp.mono e3 r1, Rp.mono e3 r3⟩⟩
theorem ev_t120 {x : T12 α β} (ha : Ev ta τ O x O1) : Ev (tOp (rIxT K) ta (tC (.int 0))) τ O x.a O1 := ev_t ha fun G v ⟨t, h, k⟩ => by
  obtain ⟨a, b⟩ := x
  cases b with
  | none =>
    obtain ⟨v1, g, h1⟩ := k
    exact ⟨t, _, v1, h, g, rfl, h1⟩
  | some y =>
    obtain ⟨v1, v2, g, h1, h2⟩ := k
    exact ⟨t, _, v1, h, g, rfl, h1⟩
theorem ev_t121 {x : T12 α β} {y : β} (ha : Ev ta τ O x O1) (hy : x.b = some y) : Ev (tOp (rIxT K) ta (tC (.int 1))) τ O y O1 := ev_t ha fun G v ⟨t, h, k⟩ => by
  obtain ⟨a, b⟩ := x
  have hy : b = some y := hy
  subst hy
  obtain ⟨v1, v2, g, h1, h2⟩ := k
  exact ⟨t, _, v2, h, g, rfl, h2⟩
theorem ev_len12 {x : T12 α β} (ha : Ev ta τ O x O1) : Ev (tCB (rLenS K) (tCons ta tNil)) τ O (len12 x) O1 := fun σ G0 G H s w Q q =>
  ha σ G0 G H s w _ fun v G2 H2 e2 w2 ⟨t, h, k⟩ => by
    obtain ⟨a, b⟩ := x
    cases b with
    | none =>
      obtain ⟨v1, g, h1⟩ := k
      exact ⟨t, [v1], by rw [h], .inr (.inl (.inl (w2.ex _ _ g))), q _ G2 H2 e2 w2 rfl⟩
    | some y =>
      obtain ⟨v1, v2, g, h1, h2⟩ := k
      exact ⟨t, [v1, v2], by rw [h], .inr (.inl (.inl (w2.ex _ _ g))), q _ G2 H2 e2 w2 rfl⟩
theorem ev_tix2 {x : T2 α α} {y : α} (ha : Ev ta τ O x O1) (hb : Ev tb τ O1 a O2) (h : ixO [x.a, x.b] a = some y) : Ev (tOp (rIxT K) ta tb) τ O y O2 := fun σ G0 G H s w Q q =>
  ha σ G0 G H s w _ fun v G2 H2 e2 w2 ⟨t, v1, v2, h1, h2, r1, r2⟩ => hb σ G0 G2 H2 (s.mono e2) w2 _ fun u G3 H3 e3 w3 r3 => by
    obtain ⟨j, hj, hx⟩ := ixO_ok h
    have hj2 : ixN [v1, v2].length a = some j := hj
    have g3 : H3 t = some (.tup [v1, v2]) := w3.ex _ _ (e3 _ _ h2)
    match j, hx with
    | 0, hx => cases hx; exact ⟨t, [v1, v2], a, v1, h1, r3, .inl (.inl g3), by unfold atI; rw [hj2]; rfl, q _ G3 H3 (e2.trans e3) w3 (Rp.mono e3 r1)⟩
    | 1, hx => cases hx; exact ⟨t, [v1, v2], a, v2, h1, r3, .inl (.inl g3), by unfold atI; rw [hj2]; rfl, q _ G3 H3 (e2.trans e3) w3 (Rp.mono e3 r2)⟩
    | j + 2, hx => simp at hx
/-! a list into names -/
theorem unl2_ok {xs : List α} {p : T2 α α} (h : unl2O xs = some p) : xs = [p.a, p.b] := by
  unfold unl2O at h
  split at h
  · cases h; rfl
  · cases h
theorem unl3_ok {xs : List α} {p : T3 α α α} (h : unl3O xs = some p) : xs = [p.a, p.b, p.c] := by
  unfold unl3O at h
  split at h
  · cases h; rfl
  · cases h
theorem tl_2 {xs : List α} {p : T2 α α} {w1 w2 : List Nat} (hx : unl2O xs = some p) (h1 : Tgt g1 p.a τ τ1 w1) (h2 : Tgt g2 p.b τ1 τ2 w2) : Tgt (gUnl K 2 (gCons g1 (gCons g2 gNil))) xs τ τ2 (w1 ++ w2) := fun σ G H v N e s ⟨l, vs, h, g, r, _⟩ q => by
  rw [unl2_ok hx] at r
  match vs, r with
  | [v1, v2], ⟨r1, r2, _⟩ =>
    exact ⟨l, [v1, v2], h, .inl (.inl (e _ _ g)), rfl, v1, [v2], rfl, h1 σ G H v1 _ e s r1 fun σ1 s1 k1 => ⟨v2, [], rfl, h2 σ1 G H v2 _ e s1 r2 fun σ2 s2 k2 => ⟨rfl, q σ2 s2 fun vs hv => (k2 vs fun i hi => hv i (List.mem_append_right _ hi)).trans (k1 vs fun i hi => hv i (List.mem_append_left _ hi))⟩⟩⟩
theorem tl_3 {xs : List α} {p : T3 α α α} {w1 w2 w3 : List Nat} (hx : unl3O xs = some p) (h1 : Tgt g1 p.a τ τ1 w1) (h2 : Tgt g2 p.b τ1 τ2 w2) (h3 : Tgt g3 p.c τ2 τ3 w3) : Tgt (gUnl K 3 (gCons g1 (gCons g2 (gCons g3 gNil)))) xs τ τ3 (w1 ++ (w2 ++ w3)) := fun σ G H v N e s ⟨l, vs, h, g, r, _⟩ q => by
  rw [unl3_ok hx] at r
  match vs, r with
  | [v1, v2, v3], ⟨r1, r2, r3, _⟩ =>
    exact ⟨l, [v1, v2, v3], h, .inl (.inl (e _ _ g)), rfl, v1, [v2, v3], rfl, h1 σ G H v1 _ e s r1 fun σ1 s1 k1 => ⟨v2, [v3], rfl, h2 σ1 G H v2 _ e s1 r2 fun σ2 s2 k2 => ⟨v3, [], rfl, h3 σ2 G H v3 _ e s2 r3 fun σ3 s3 k3 => ⟨rfl, q σ3 s3 fun vs hv =>
      ((k3 vs fun i hi => hv i (List.mem_append_right _ (List.mem_append_right _ hi))).trans (k2 vs fun i hi => hv i (List.mem_append_right _ (List.mem_append_left _ hi)))).trans (k1 vs fun i hi => hv i (List.mem_append_left _ hi))⟩⟩⟩⟩
end
theorem kg_unl {X : Cx} {pos : Pos} (K : PySem.W.Frag) {es : List Expr} {k : Nat} {t : TGs} {n : Nat} (h : X.K = K) (hc : X.calm = true) (hs : PGs X es t)
    (hn : (assignEach es X.env).length = n := by rfl) (hst : (assignEach es X.env).findIdx? (·.1) = none := by rfl) : PG X (.Tuple es k pos) (gUnl K n t) := h ▸ pg_unl hc hs hn hst
end DL
end
section
namespace DL
/-! ### a dict of pairs: later pairs win, the place is the first one's -/
def dictPl {α : Type} : List (T2 Int α) → List (T2 Int α) → List (T2 Int α)
  | [], xs => xs
  | y :: ys, xs => dictPl ys (putDl y.a y.b xs)
def dictP {α : Type} (ys : List (T2 Int α)) : Dc α := ⟨dictPl ys []⟩
def lcount (xs : List Int) (n : Int) : Int := ((xs.count n : Nat) : Int)
end DL
end
section
namespace DL
open PySem PySem.Spec PyProof.Rows L2
open Rp (rp)
section
variable {X : Cx}
theorem kc_dictP (K : PySem.W.Frag) (h : X.K = K) (hc : X.calm = true) : CallR X (.type "dict") (fun xs H Q => ∃ (a : Addr) (ps : List Addr) (kvs : List (Key × V)), xs = [.ref a] ∧ SqL K H a (ps.map V.ref) ∧ Paired (fun p kv => SqT K H p [kV kv.1, kv.2]) ps kvs ∧
    ∀ p, H p = none → Q (.ref p) (upd H p (.dK (mergeK [] kvs)))) := h ▸ call_dictP hc
end
theorem ki_list {X : Cx} {tg l : Expr} {tl : TE} (K : PySem.W.Frag) (h : X.K = K) (hl : PE X l tl) : PI X tg l (iList K tl) := h ▸ pi_list hl
def lkOk : Option NameKind → Bool := fun o => match o with | some .cell => true | some .free => true | _ => false
theorem look_rel {f : Str × NameKind → Str × NameKind} (hf : ∀ p, f p = p ∨ (p.2 = .free ∧ f p = (p.1, .cell))) {y : Str} : ∀ names : List (Str × NameKind), lkOk (names.lookup y) = true → lkOk ((names.map f).lookup y) = true
  | [], h => h
  | (n, k) :: r, h => by
    have ih := look_rel hf (y := y) r
    rw [List.map_cons]
    rw [List.lookup_cons] at h
    rcases hf (n, k) with e | ⟨e1, e2⟩
    · rw [e, List.lookup_cons]
      cases z : y == n with
      | true => rw [z] at h; exact h
      | false => rw [z] at h; exact ih h
    · rw [e2, List.lookup_cons]
      show lkOk (match y == n with | true => some .cell | false => _) = true
      cases z : y == n with
      | true => rfl
      | false => rw [z] at h; exact ih h
theorem blkC_rel {N : List Str} {sc0 scope : Scope} {own : List (Str × Nat)} {env : PySem.Env} (h : blkC N sc0 scope own = true) : blkC N (relabel sc0 env) scope own = true := by
  unfold blkC at h ⊢
  rw [Bool.and_eq_true] at h ⊢
  refine ⟨h.1, ?_⟩
  rw [List.all_eq_true] at h ⊢
  intro y hy
  have hz := h.2 y hy
  cases e : y.2 with
  | free =>
    rw [e] at hz
    refine look_rel (f := fun (n, k) => if (k == .free && env.scope.kind == .function && env.kindOf n == some .cell) then (n, .cell) else (n, k)) (fun p => ?_) sc0.names hz
    obtain ⟨n, k⟩ := p
    by_cases c : (k == NameKind.free && env.scope.kind == .function && env.kindOf n == some .cell) = true
    · simp only [Bool.and_eq_true, beq_iff_eq] at c
      refine .inr ⟨c.1.1, ?_⟩
      show (if _ then _ else _) = _
      rw [if_pos (by simp only [Bool.and_eq_true, beq_iff_eq]; exact c)]
    · refine .inl ?_
      show (if _ then _ else _) = _
      rw [if_neg c]
  | «local» => rw [e] at hz; exact hz
  | cell => rw [e] at hz; exact hz
  | _ => rfl
theorem blkOk_in {N' : List Str} {sc' sc0 scope : Scope} {env : PySem.Env} {own : List (Str × Nat)} (N : List Str) (hN : N' = N) (hs : sc' = relabel sc0 env) (h : blkC N sc0 scope own = true) : BlkOk N' sc' scope own := by
  subst hN
  subst hs
  exact blkOk_by (blkC_rel h)
section
variable {X : Cx} {o e : Expr} {es : List Expr} {to : TE} {t : TA} {name : Str} {apos cpos : Pos} {T id : String} {r : V → List V → Hp → VK → Prop}
theorem kbm (K : PySem.W.Frag) (h : X.K = K) (pa : PlainAttrs T) (slot : Slot T name id) (hty : typeOf (.builtin id) = pure (.type "method_descriptor")) (hm : MtR X id r) (ho : PE X o to) (ha : PA X (e :: es) t)
    (hbase : attributeBase o name X.env (eval o X.env) = eval o X.env := by rfl)
    (hfew : ((backTo cpos (starEach (e :: es) X.env)).all (fun x => !x.1) && (backToKw cpos (keywordEach [] X.env)).all (fun x => x.1.isSome)
      && decide ((e :: es).length + ([] : List Keyword).length + (if ([] : List Keyword).isEmpty then 0 else 1) < 30)) = true := by rfl)
    (hline : (apos.endLine == cpos.line) = true := by rfl) (hs : starEach (e :: es) X.env = (false, eval e X.env) :: starEach es X.env := by rfl) (hplain : (backTo cpos (starEach es X.env)).any (·.1) = false := by rfl) :
    PE X (.Call (.Attribute o name apos) (e :: es) [] cpos) (tBM K T r to t) := h ▸ pe_bm pa slot hty hm ho ha hbase hfew hline hs hplain
theorem km_count (K : PySem.W.Frag) (h : X.K = K) : MtR X "list.count" (rCntI K) := h ▸ mt_lcount
theorem km_index (K : PySem.W.Frag) (h : X.K = K) : MtR X "list.index" (rIndex K) := h ▸ mt_index
end
abbrev rDictP (K : PySem.W.Frag) : List V → Hp → VK → Prop := fun xs H Q => ∃ (a : Addr) (ps : List Addr) (kvs : List (Key × V)), xs = [.ref a] ∧ SqL K H a (ps.map V.ref) ∧ Paired (fun p kv => SqT K H p [kV kv.1, kv.2]) ps kvs ∧
    ∀ p, H p = none → Q (.ref p) (upd H p (.dK (mergeK [] kvs)))
section
variable {α β γ δ : Type} [Rp α] [Rp β] [Rp γ] [Rp δ] {K : PySem.W.Frag} {w : World} {τ τ1 τ2 τ3 τ4 : Env} {O O1 O2 O3 O' : Own} {ta tb tc te tl tp td ty tx : TE} {t u : TT} {tr : TA} {d d' d1 d2 d3 : Dyn} {ds : List Dyn} {a b r : Int}
variable {G0 : Hp} {D : Ends} {tu tw : TS} {g g1 g2 g3 : TG} {wi : TI} {R : VK} {c c' : Cell} {Kp Kq : Own → Prop} {m m' m0 : Dc α} {k : Int} {v : α}
theorem RpK.merge {G : Hp} : ∀ {qs : List (Key × V)} {ys : List (T2 Int α)}, RpK G qs ys → ∀ {ps : List (Key × V)} {xs : List (T2 Int α)}, RpK G ps xs → (xs.map (·.a)).Nodup → RpK G (mergeK ps qs) (dictPl ys xs) ∧ ((dictPl ys xs).map (·.a)).Nodup ∧ (dictPl ys xs).length ≤ xs.length + ys.length
  | [], [], _, ps, xs, h, nd => ⟨h, nd, Nat.le_refl _⟩
  | q :: qs, y :: ys, ⟨⟨h1, h2⟩, t⟩, ps, xs, h, nd => by
    have e : q = (Sum.inl y.a, q.2) := by rw [← h1]
    have p1 := h.put (k := y.a) h2 nd
    have p2 := putDl_nd (k := y.a) (v := y.b) nd
    have p3 := putDl_len (k := y.a) (v := y.b) xs
    obtain ⟨i1, i2, i3⟩ := RpK.merge t p1 p2
    refine ⟨?_, i2, ?_⟩
    · show RpK G (mergeK (putK ps q.1 q.2) qs) _
      rw [h1]
      exact i1
    · show (dictPl ys (putDl y.a y.b xs)).length ≤ _
      rw [List.length_cons]
      omega
  | [], _ :: _, h, _, _, _, _ => h.elim
  | _ :: _, [], h, _, _, _, _ => h.elim
theorem RpL.pairs {G H : Hp} (e : Ex G H) : ∀ {vs : List V} {xs : List (T2 Int α)}, RpL G vs xs → ∃ (ps : List Addr) (kvs : List (Key × V)), vs = ps.map V.ref ∧ Paired (fun p kv => SqT K H p [kV kv.1, kv.2]) ps kvs ∧ RpK G kvs xs
  | [], [], _ => ⟨[], [], rfl, .nil, trivial⟩
  | u :: vs, x :: xs, ⟨⟨t, v1, v2, h1, g, r1, r2⟩, tl⟩ => by
    obtain ⟨ps, kvs, e1, e2, e3⟩ := RpL.pairs e tl
    have r1 : v1 = .int x.a := r1
    subst r1
    exact ⟨t :: ps, (Sum.inl x.a, v2) :: kvs, by rw [h1, e1]; rfl, .cons (.inl (.inl (e _ _ g))) e2, ⟨⟨rfl, r2⟩, e3⟩⟩
  | [], _ :: _, h => h.elim
  | _ :: _, [], h => h.elim
/-- dict(xs) of a list of pairs -/
theorem ec_dictP {xs : List (T2 Int α)} (ha : EvLs ta τ O xs O1 Kp) (hk : Kp O1) : EvC (tCB (rDictP K) (tCons ta tNil)) τ O (cD (dictP xs)) O1 := fun σ G0 G H s w Q q =>
  ha σ G0 G H s w _ fun p G2 H2 e2 w2 st hl => by
    obtain ⟨vs, k1, k2⟩ := st.now w2 hk
    obtain ⟨ps, kvs, e1, e3, e4⟩ := RpL.pairs (K := K) w2.ex k2
    subst e1
    obtain ⟨i1, i2, i3⟩ := RpK.merge e4 (ps := []) (xs := []) trivial List.nodup_nil
    exact ⟨p, ps, kvs, rfl, .inl (.inl k1), e3, fun l hl' => q l G2 _ e2 (w2.alloc (c := cD1 (dictP xs)) hl' ⟨_, rfl, i1, i2, by
      rw [List.length_nil] at i3
      show (dictPl xs []).length ≤ _
      omega⟩)⟩
/-- a pair is handed back whose second part is made anew -/
theorem nx_retE2 (h1 : EvD ta τ O d1 O1) (h2 : EvC tb τ O1 c O2) (k : ∀ l, RtD G0 D.rt (dyT2 d1 (dyA l)) ((l, c) :: O2)) : Nx G0 (tRet (tTup (tCons ta (tCons tb tNil))) D) τ O := fun σ G H s w =>
  h1 σ G0 G H s w _ fun v1 G2 H2 e2 w2 r1 => h2 σ G0 G2 H2 (s.mono e2) w2 _ fun l G3 H3 e3 w3 => ⟨by show 2 ≤ sizeLine; decide, fun p hp => by
    obtain ⟨e4, w4⟩ := w3.grow (o := .tup [v1, .ref l]) hp
    exact k l _ _ _ w4 ⟨p, v1, .ref l, rfl, upd_same, d1.mono e4 (d1.mono e3 r1), rfl⟩⟩
theorem RtC.drop {p : Addr × Cell} (h : RtC G0 R c O) : RtC G0 R c (p :: O) := fun l G H w => h l G H ((w.perm (List.Perm.swap ..)).drop)
/-- a pair of own lists that is no longer changed -/
theorem EvU.fr2 {x : T2 (List α) (List β)} (h : EvU te τ O [cL x.a, cL x.b] (fun as => dyT2 (dyA (as.getD 0 default)) (dyA (as.getD 1 default))) O') : Ev te τ O x O' := fun σ G0 G H s w Q q => h σ G0 G H s w Q fun as v G2 H2 hl e2 w2 r2 => by
  match as, hl with
  | [a, b], _ =>
    obtain ⟨t, v1, v2, e1, g, h1, h2⟩ := r2
    have h1 : v1 = .ref a := h1
    have h2 : v2 = .ref b := h2
    obtain ⟨G3, e3, w3, r3⟩ := W.freezeL (p := a) (xs := x.a) w2
    obtain ⟨G4, e4, w4, r4⟩ := W.freezeL (p := b) (xs := x.b) w3
    exact q v G4 H2 ((e2.trans e3).trans e4) w4 ⟨t, v1, v2, e1, e4 _ _ (e3 _ _ g), by rw [h1]; exact Rp.mono e4 r3, by rw [h2]; exact r4⟩
/-- frozen things that a step has made -/
theorem W.gain {G H G' H' : Hp} (w : W G0 G O H) (e : Ex H H') (eg : Ex G G') (eh : Ex G' H') (fr : ∀ a o, G' a = some o → G a = some o ∨ H a = none) : W G0 G' O H' := by
  obtain ⟨F, h1, h2⟩ := w.fp
  refine ⟨w.base.trans eg, eh, ⟨F, fun a d m => ?_, h2⟩, w.nd⟩
  obtain ⟨k1, k2, k3⟩ := h1 a d m
  refine ⟨d.mono eg k1, fun b => ?_, fun b u h => e b u (k3 b u h)⟩
  cases z : G' b with
  | none => exact .inl rfl
  | some o =>
    right
    rcases fr b o z with y | y
    · rcases k2 b with x | x
      · rw [x] at y
        cases y
      · exact x
    · exact k3.none y
theorem RpL.ofItems {G G' : Hp} (e : Ex G G') : ∀ {ts : List Addr} {ps : List (Key × V)} {xs : List (T2 Int α)}, Paired (fun (t : Addr) (q : Key × V) => G' t = Option.some (.tup [kV q.1, q.2])) ts ps → RpK G ps xs → RpL G' (ts.map V.ref) xs
  | [], [], [], _, _ => trivial
  | t :: ts, p :: ps, x :: xs, .cons h hp, ⟨⟨h1, h2⟩, tl⟩ => ⟨⟨t, .int x.a, p.2, rfl, by
    rw [h, h1]
    rfl, rfl, Rp.mono e h2⟩, RpL.ofItems e hp tl⟩
  | [], [], _ :: _, _, h => h.elim
  | _ :: _, _ :: _, [], _, h => h.elim
/-- list(d.items()) -/
theorem ev_items (ha : EvDr td τ O m O1 Kp) (hk : Kp O1) : Ev (LiI.tListItems td) τ O m.l O1 := fun σ G0 G H s w Q q =>
  ha σ G0 G H s w _ fun d G2 H2 e2 w2 st hl => by
    obtain ⟨ps, hd, hr⟩ := st.now w2 hk
    refine ⟨d, ps, rfl, hd, fun H' p ts hex hp hts hpn hpl hpd => ?_⟩
    have eG : Ex G2 (fun a => if a = p then H' p else if a ∈ ts then H' a else G2 a) := fun a u h => by
      have hx := hex a u (w2.ex a u h)
      show (if a = p then H' p else if a ∈ ts then H' a else G2 a) = some u
      by_cases e1 : a = p
      · rw [if_pos e1, ← e1]
        exact hx
      · rw [if_neg e1]
        by_cases e3 : a ∈ ts
        · rw [if_pos e3]
          exact hx
        · rw [if_neg e3]
          exact h
    have eH : Ex (fun a => if a = p then H' p else if a ∈ ts then H' a else G2 a) H' := fun a u h => by
      have h : (if a = p then H' p else if a ∈ ts then H' a else G2 a) = some u := h
      by_cases e1 : a = p
      · rw [if_pos e1] at h
        rw [e1]
        exact h
      · rw [if_neg e1] at h
        by_cases e3 : a ∈ ts
        · rw [if_pos e3] at h
          exact h
        · rw [if_neg e3] at h
          exact hex a u (w2.ex a u h)
    refine q (.ref p) _ H' (e2.trans eG) (w2.gain (fun a u h => hex a u h) eG eH fun a u h => ?_) ⟨p, ts.map V.ref, rfl, ?_, ?_, hl⟩
    · have h : (if a = p then H' p else if a ∈ ts then H' a else G2 a) = some u := h
      by_cases e1 : a = p
      · exact .inr (e1 ▸ hp)
      · rw [if_neg e1] at h
        by_cases e3 : a ∈ ts
        · exact .inr (hts a e3)
        · rw [if_neg e3] at h
          exact .inl h
    · show (if p = p then H' p else _) = _
      rw [if_pos rfl]
      exact hpl
    · refine RpL.ofItems eG ?_ hr
      have gen : ∀ {as : List Addr} {qs : List (Key × V)}, (∀ t ∈ as, t ∈ ts) → Paired (fun (t : Addr) (q : Key × V) => H' t = some (.tup [kV q.1, q.2])) as qs → Paired (fun (t : Addr) (q : Key × V) => (if t = p then H' p else if t ∈ ts then H' t else G2 t) = some (.tup [kV q.1, q.2])) as qs := by
        intro as qs hs hp
        induction hp with
        | nil => exact .nil
        | @cons a b as bs h t ih =>
          refine .cons ?_ (ih fun t ht => hs t (List.mem_cons_of_mem _ ht))
          have ha := hs a (List.mem_cons_self ..)
          have hne : ¬ a = p := fun e => by
            rw [e] at ha
            exact hpn ha
          rw [if_neg hne, if_pos ha]
          exact h
      exact gen (fun t h => h) hpd
theorem ev_isiL {xs : List α} {n : String} {bb : Bool} (ha : EvLs ta τ O xs O1 Kp) (hk : Kp O1) (h : kitB "list" n = some bb) : Ev (tCB (rIsi K) (tCons ta (tCons (tC (.ty n)) tNil))) τ O bb O1 := fun σ G0 G H s w Q q =>
  ha σ G0 G H s w _ fun p G2 H2 e2 w2 st _ => by
    obtain ⟨vs, k1, _⟩ := st.now w2 hk
    exact ⟨.ref p, .ty n, .type "list", .type n, bb, rfl, .ty n, .base (.lst k1), kit_ty h, q _ G2 H2 e2 w2 rfl⟩
theorem ev_lcount {xs : List Int} {n : Int} (ha : EvLs ta τ O xs O1 Kp) (hb : Ev tb τ O1 n O2) (hk1 : Kp O1) (hk : Kp O2) : Ev (tBM K "list" (rCntI K) ta (tCons tb tNil)) τ O (lcount xs n) O2 := fun σ G0 G H s w Q q =>
  ha σ G0 G H s w _ fun p G2 H2 e2 w2 st _ => by
    obtain ⟨vs, k1, _⟩ := st.now w2 hk1
    refine ⟨.inl ⟨rfl, vs, .inl (.inl k1)⟩, hb σ G0 G2 H2 (s.mono e2) w2 _ fun v3 G3 H3 e3 w3 r3 => ?_⟩
    obtain ⟨us, k3, k4⟩ := (st.mono e3).now w3 hk
    have e := k4.ints
    subst e
    have r3 : v3 = .int n := r3
    exact ⟨p, xs, n, rfl, by rw [r3], .inl (.inl k3), q _ G3 H3 (e2.trans e3) w3 rfl⟩
theorem flat_ints : ∀ xs : List Int, (xs.map V.int).all flatV = true
  | [] => rfl
  | x :: xs => by
    rw [List.map_cons, List.all_cons, flat_ints xs]
    rfl
theorem ev_lindex {xs : List Int} {n j : Int} (ha : EvLs ta τ O xs O1 Kp) (hb : Ev tb τ O1 n O2) (hk1 : Kp O1) (hk : Kp O2) (hz : idxO xs n = some j) : Ev (tBM K "list" (rIndex K) ta (tCons tb tNil)) τ O j O2 := fun σ G0 G H s w Q q =>
  ha σ G0 G H s w _ fun p G2 H2 e2 w2 st _ => by
    unfold idxO at hz
    split at hz
    next hc =>
      cases hz
      obtain ⟨vs, k1, _⟩ := st.now w2 hk1
      refine ⟨.inl ⟨rfl, vs, .inl (.inl k1)⟩, hb σ G0 G2 H2 (s.mono e2) w2 _ fun v3 G3 H3 e3 w3 r3 => ?_⟩
      obtain ⟨us, k3, k4⟩ := (st.mono e3).now w3 hk
      have e := k4.ints
      subst e
      have r3 : v3 = .int n := r3
      subst r3
      have hi : xs.idxOf n < xs.length := List.idxOf_lt_length_of_mem hc
      refine ⟨p, xs.map V.int, .int n, xs.idxOf n, .int n, rfl, rfl, .inl (.inl k3), rfl, flat_ints xs, by rw [List.getElem?_map, List.getElem?_eq_getElem hi, List.getElem_idxOf hi]; rfl, by simp [eqV], fun m z hm hz => ?_, q _ G3 H3 (e2.trans e3) w3 rfl⟩
      have hno := List.not_of_lt_findIdx (xs := xs) (p := (· == n)) (i := m) hm
      rw [List.getElem?_map] at hz
      obtain ⟨y, hy, e⟩ := Option.map_eq_some_iff.mp hz
      obtain ⟨h1, h2⟩ := List.getElem?_eq_some_iff.mp hy
      subst e
      have : ¬ y = n := by
        intro z
        rw [h2] at hno
        simp [z] at hno
      simpa [eqV] using this
    next => cases hz
/-- an empty list that own lists will be put into -/
theorem ec_nilN : EvC (tLst tNil) τ O (cN ([] : List (List α))) O := fun σ G0 G H s w Q q =>
  ⟨sz_small (Nat.zero_le _), fun p hp => q p G _ (Ex.refl _) (W.pack (n := nN) (as := []) (cs := []) rfl (w.alloc (c := nN.c1 p []) hp ⟨rfl, Nat.zero_le _⟩))⟩
theorem EvU.fr3N {x : T3 (List α) (List (List β)) γ} (h : EvU te τ O [cL x.a, cN x.b] (fun as => dyT3 (dyA (as.getD 0 default)) (dyA (as.getD 1 default)) (dy x.c)) O') : Ev te τ O x O' := fun σ G0 G H s w Q q => h σ G0 G H s w Q fun as v G2 H2 hl e2 w2 r2 => by
  match as, hl with
  | [a, b], _ =>
    obtain ⟨t, v1, v2, v3, e1, g, h1, h2, h3⟩ := r2
    have h1 : v1 = .ref a := h1
    have h2 : v2 = .ref b := h2
    obtain ⟨G3, e3, w3, r3⟩ := W.freezeL (p := a) (xs := x.a) w2
    obtain ⟨G4, e4, w4, r4⟩ := W.freezeN (p := b) (xss := x.b) w3
    exact q v G4 H2 ((e2.trans e3).trans e4) w4 ⟨t, v1, v2, v3, e1, e4 _ _ (e3 _ _ g), by rw [h1]; exact Rp.mono e4 r3, by rw [h2]; exact r4, Rp.mono e4 (Rp.mono e3 h3)⟩
end
end DL
end
section
namespace DL
/-! ### triples by order -/
def keyT (x : T3 Int Int Int) : Int := x.a * (10 ^ 60) ^ 2 + (x.b * (10 ^ 60) ^ 1 + (x.c * (10 ^ 60) ^ 0 + 0))
def leT (x y : T3 Int Int Int) : Bool := decide (keyT x ≤ keyT y)
def bdT (x : T3 Int Int Int) : Bool := (decide (0 ≤ x.a ∧ x.a < 10 ^ 60) && decide (0 ≤ x.b ∧ x.b < 10 ^ 60)) && decide (0 ≤ x.c ∧ x.c < 10 ^ 60)
def insTr (x : T3 Int Int Int) : List (T3 Int Int Int) → List (T3 Int Int Int)
  | [] => [x]
  | y :: ys => if leT x y = true then x :: y :: ys else y :: insTr x ys
def isrtT : List (T3 Int Int Int) → List (T3 Int Int Int)
  | [] => []
  | x :: xs => insTr x (isrtT xs)
def srtTO (xs : List (T3 Int Int Int)) : Option (List (T3 Int Int Int)) := if xs.length < 64 ∧ xs.all bdT = true then some (isrtT xs) else none
theorem bdT_iff {x : T3 Int Int Int} : bdT x = true ↔ (0 ≤ x.a ∧ x.a < 10 ^ 60) ∧ (0 ≤ x.b ∧ x.b < 10 ^ 60) ∧ (0 ≤ x.c ∧ x.c < 10 ^ 60) := by
  unfold bdT
  rw [Bool.and_eq_true, Bool.and_eq_true, decide_eq_true_eq, decide_eq_true_eq, decide_eq_true_eq, and_assoc]
theorem leT_iff {x y : T3 Int Int Int} : leT x y = true ↔ keyT x ≤ keyT y := by simp [leT]
theorem keyT_eq (x : T3 Int Int Int) : keyT x = x.a * (10 ^ 120) + (x.b * 10 ^ 60 + x.c) := by
  unfold keyT
  have e2 : ((10 : Int) ^ 60) ^ 2 = 10 ^ 120 := by decide
  rw [e2, Int.pow_one, Int.pow_zero, Int.mul_one, Int.add_zero]
theorem leT_no {x y : T3 Int Int Int} : ¬ leT x y = true → leT y x = true := fun h => by
  rw [leT_iff] at h ⊢
  omega
theorem leT_trans {x y z : T3 Int Int Int} (h : leT x y = true) (k : leT y z = true) : leT x z = true := by
  rw [leT_iff] at h k ⊢
  omega
theorem leT_anti {x y : T3 Int Int Int} (hx : bdT x = true) (hy : bdT y = true) (h : leT x y = true) (k : leT y x = true) : x = y := by
  rw [leT_iff, keyT_eq, keyT_eq] at h k
  rw [bdT_iff] at hx hy
  obtain ⟨a, b, c⟩ := x
  obtain ⟨d, e, f⟩ := y
  simp only at h k hx hy
  rw [T3.mk.injEq]
  omega
theorem leT_lt {x y : T3 Int Int Int} (hx : bdT x = true) (hy : bdT y = true) (h : x.a < y.a) : leT x y = true := by
  rw [leT_iff, keyT_eq, keyT_eq]
  rw [bdT_iff] at hx hy
  omega
theorem leT_a {x y : T3 Int Int Int} (hx : bdT x = true) (hy : bdT y = true) (h : leT x y = true) : x.a ≤ y.a := by
  rw [leT_iff, keyT_eq, keyT_eq] at h
  rw [bdT_iff] at hx hy
  omega
theorem insTr_perm (x : T3 Int Int Int) : ∀ l : List (T3 Int Int Int), (insTr x l).Perm (x :: l)
  | [] => List.Perm.refl _
  | y :: ys => by
    unfold insTr
    split
    · exact List.Perm.refl _
    · exact ((insTr_perm x ys).cons y).trans (List.Perm.swap x y ys)
theorem isrtT_perm : ∀ xs : List (T3 Int Int Int), (isrtT xs).Perm xs
  | [] => List.Perm.refl _
  | x :: xs => (insTr_perm x _).trans ((isrtT_perm xs).cons x)
theorem insTr_pw {x : T3 Int Int Int} : ∀ {l : List (T3 Int Int Int)}, l.Pairwise (fun a b => leT a b = true) → (insTr x l).Pairwise (fun a b => leT a b = true)
  | [], _ => by simp [insTr]
  | y :: ys, h => by
    obtain ⟨h1, h2⟩ := List.pairwise_cons.mp h
    unfold insTr
    split
    · next hx =>
      refine List.pairwise_cons.mpr ⟨fun z hz => ?_, h⟩
      rcases List.mem_cons.mp hz with e | e
      · rw [e]; exact hx
      · exact leT_trans hx (h1 z e)
    · next hx =>
      refine List.pairwise_cons.mpr ⟨fun z hz => ?_, insTr_pw h2⟩
      rcases List.mem_cons.mp ((insTr_perm x ys).mem_iff.mp hz) with e | e
      · rw [e]; exact leT_no hx
      · exact h1 z e
theorem isrtT_pw : ∀ xs : List (T3 Int Int Int), (isrtT xs).Pairwise (fun a b => leT a b = true)
  | [] => List.Pairwise.nil
  | _ :: xs => insTr_pw (isrtT_pw xs)
theorem leT_unique : ∀ {xs ys : List (T3 Int Int Int)}, xs.Perm ys → (∀ x ∈ xs, bdT x = true) → xs.Pairwise (fun a b => leT a b = true) → ys.Pairwise (fun a b => leT a b = true) → xs = ys
  | [], ys, h, _, _, _ => h.nil_eq
  | x :: xs, [], h, _, _, _ => absurd h.length_eq (by simp)
  | x :: xs, y :: ys, h, hb, hx, hy => by
    obtain ⟨x1, x2⟩ := List.pairwise_cons.mp hx
    obtain ⟨y1, y2⟩ := List.pairwise_cons.mp hy
    have e : x = y := by
      rcases List.mem_cons.mp (h.mem_iff.mp (List.mem_cons_self ..)) with a | a
      · exact a
      · rcases List.mem_cons.mp (h.mem_iff.mpr (List.mem_cons_self ..)) with b | b
        · exact b.symm
        · exact leT_anti (hb x (List.mem_cons_self ..)) (hb y (h.mem_iff.mpr (List.mem_cons_self ..))) (x1 y b) (y1 x a)
    subst e
    rw [leT_unique ((List.perm_cons x).mp h) (fun z hz => hb z (List.mem_cons_of_mem _ hz)) x2 y2]
end DL
end
section
namespace DL
open PySem PySem.Spec PyProof.Rows L2
open Rp (rp)
section
theorem keyT_code (x : T3 Int Int Int) : keyT x = TS.code (10 ^ 60) [x.a, x.b, x.c] := rfl
theorem kc_sortedT {X : Cx} (K : PySem.W.Frag) (h : X.K = K) : CallR X (.builtin "sorted") (rSortU K 3 (10 ^ 60)) := h ▸ cr_sortT (by decide)
variable {K : PySem.W.Frag} {τ : Env} {O O1 : Own} {ta : TE} {Kp : Own → Prop}
theorem pw_leT {K : PySem.W.Frag} {H : Hp} : ∀ {us : List V} {ys : List (T3 Int Int Int)}, RpL H us ys → us.Pairwise (fun x y => ∀ n m, TupI K H x n → TupI K H y m → TS.code (10 ^ 60) n ≤ TS.code (10 ^ 60) m) → ys.Pairwise (fun a b => leT a b = true)
  | [], [], _, _ => List.Pairwise.nil
  | [], _ :: _, h, _ => h.elim
  | _ :: _, [], h, _ => h.elim
  | u :: us, y :: ys, ⟨h, t⟩, s => by
    obtain ⟨s1, s2⟩ := List.pairwise_cons.mp s
    have tp : ∀ {u : V} {y : T3 Int Int Int}, rp H u y → TupI K H u [y.a, y.b, y.c] := fun {u y} h => by
      obtain ⟨t, v1, v2, v3, rfl, g, r1, r2, r3⟩ := h
      have r1 : v1 = .int y.a := r1
      have r2 : v2 = .int y.b := r2
      have r3 : v3 = .int y.c := r3
      subst r1
      subst r2
      subst r3
      exact ⟨t, rfl, .inl (.inl g)⟩
    refine List.pairwise_cons.mpr ⟨fun z hz => ?_, pw_leT t s2⟩
    obtain ⟨i, hi⟩ := List.mem_iff_getElem?.mp hz
    obtain ⟨v, hv, rv⟩ := t.get hi
    have k := s1 v (List.mem_of_getElem? hv) _ _ (tp h) (tp rv)
    rw [leT_iff, keyT_code, keyT_code]
    exact k
theorem en_sortedT {xs ys : List (T3 Int Int Int)} (ha : EvLs ta τ O xs O1 Kp) (hk : Kp O1) (h : srtTO xs = some ys) : EvN (tCB (rSortU K 3 (10 ^ 60)) (tCons ta tNil)) τ O ys O1 := fun σ G0 G H s w Q q =>
  ha σ G0 G H s w _ fun p G2 H2 e2 w2 st hl => by
    unfold srtTO at h
    split at h
    case isFalse => cases h
    next hc =>
    cases h
    have hb : ∀ x ∈ xs, bdT x = true := fun x hx => List.all_eq_true.mp hc.2 x hx
    obtain ⟨vs, h1, h2⟩ := st.now w2 hk
    have h2H : RpL H2 vs xs := h2.mono w2.ex
    refine ⟨p, vs, rfl, .inl (.inl h1), by rw [h2.length]; exact hc.1, fun x hx => ?_, fun us l hp hs hn => ?_⟩
    · obtain ⟨i, hi⟩ := List.mem_iff_getElem?.mp hx
      obtain ⟨y, hy, ry⟩ := h2H.get' hi
      have hby := bdT_iff.mp (hb y (List.mem_of_getElem? hy))
      obtain ⟨t, v1, v2, v3, rfl, g, r1, r2, r3⟩ := ry
      have r1 : v1 = .int y.a := r1
      have r2 : v2 = .int y.b := r2
      have r3 : v3 = .int y.c := r3
      subst r1
      subst r2
      subst r3
      refine ⟨[y.a, y.b, y.c], ⟨t, rfl, .inl (.inl g)⟩, rfl, fun m hm => ?_⟩
      simp only [List.mem_cons, List.not_mem_nil, or_false] at hm
      rcases hm with e | e | e
      · rw [e]; exact hby.1
      · rw [e]; exact hby.2.1
      · rw [e]; exact hby.2.2
    · obtain ⟨ys, y1, y2⟩ := h2.perm hp
      have e : ys = isrtT xs := leT_unique (y1.trans (isrtT_perm xs).symm) (fun x hx => hb x (y1.mem_iff.mp hx)) (pw_leT (y2.mono w2.ex) hs) (isrtT_pw xs)
      subst e
      exact q l G2 _ e2 (w2.alloc (c := cL1 (isrtT xs)) hn ⟨_, rfl, y2, by rw [(isrtT_perm xs).length_eq]; exact hl⟩)
end
end DL
end
section
namespace DL
/-! ### dicts with pairs of numbers as keys -/
structure Dp (α : Type) where
  l : List (T2 (T2 Int Int) α)
def atPl {α : Type} (k : T2 Int Int) : List (T2 (T2 Int Int) α) → Option α
  | [] => none
  | x :: xs => if x.a = k then some x.b else atPl k xs
def putPl {α : Type} (k : T2 Int Int) (v : α) : List (T2 (T2 Int Int) α) → List (T2 (T2 Int Int) α)
  | [] => [T2.mk k v]
  | x :: xs => if x.a = k then T2.mk k v :: xs else x :: putPl k v xs
def putP {α : Type} (d : Dp α) (k : T2 Int Int) (v : α) : Option (Dp α) := if d.l.length < LIM then some ⟨putPl k v d.l⟩ else none
def hasPd {α : Type} (d : Dp α) (k : T2 Int Int) : Bool := (atPl k d.l).isSome
def emptyP {α : Type} : Dp α := ⟨[]⟩
def setdP {α : Type} (d : Dp α) (k : T2 Int Int) (v : α) : Option (α × Dp α) := match atPl k d.l with
  | some x => some (x, d)
  | none => if d.l.length < LIM then some (v, ⟨d.l ++ [T2.mk k v]⟩) else none
end DL
end
section
namespace DL
open PySem PySem.Spec PyProof.Rows L2
open Rp (rp)
/-! ### dicts with pairs as keys -/
def encP (k : T2 Int Int) : List Key := [Sum.inl k.a, Sum.inl k.b]
theorem encP_inj {x y : T2 Int Int} (h : encP x = encP y) : x = y := by
  unfold encP at h
  rw [List.cons.injEq, List.cons.injEq] at h
  cases x
  cases y
  rw [T2.mk.injEq]
  exact ⟨Sum.inl.inj h.1, Sum.inl.inj h.2.1⟩
def RpP {α : Type} [Rp α] (G : Hp) : List (List Key × V) → List (T2 (T2 Int Int) α) → Prop
  | [], [] => True
  | p :: ps, x :: xs => (p.1 = encP x.a ∧ rp G p.2 x.b) ∧ RpP G ps xs
  | _, _ => False
section
variable {α : Type} [Rp α]
theorem RpP.mono {G G' : Hp} (e : Ex G G') : ∀ {ps : List (List Key × V)} {xs : List (T2 (T2 Int Int) α)}, RpP G ps xs → RpP G' ps xs
  | [], [], _ => trivial
  | _ :: _, _ :: _, ⟨⟨h, k⟩, t⟩ => ⟨⟨h, Rp.mono e k⟩, RpP.mono e t⟩
  | [], _ :: _, h => h.elim
  | _ :: _, [], h => h.elim
theorem RpP.length {G : Hp} : ∀ {ps : List (List Key × V)} {xs : List (T2 (T2 Int Int) α)}, RpP G ps xs → ps.length = xs.length
  | [], [], _ => rfl
  | _ :: _, _ :: _, ⟨_, t⟩ => congrArg (· + 1) (RpP.length t)
  | [], _ :: _, h => h.elim
  | _ :: _, [], h => h.elim
theorem RpP.val {G : Hp} (k : T2 Int Int) : ∀ {ps : List (List Key × V)} {xs : List (T2 (T2 Int Int) α)}, RpP G ps xs → RpO G (valV ps (encP k)) (atPl k xs)
  | [], [], _ => trivial
  | p :: ps, x :: xs, ⟨⟨h, r⟩, t⟩ => by
    unfold atPl
    by_cases e : x.a = k
    · rw [if_pos e, valV_pos (by rw [h, e])]
      exact r
    · rw [if_neg e, valV_neg (by rw [h]; intro z; exact e (encP_inj z))]
      exact RpP.val k t
  | [], _ :: _, h => h.elim
  | _ :: _, [], h => h.elim
theorem RpP.append {G : Hp} : ∀ {ps qs : List (List Key × V)} {xs ys : List (T2 (T2 Int Int) α)}, RpP G ps xs → RpP G qs ys → RpP G (ps ++ qs) (xs ++ ys)
  | [], _, [], _, _, h => h
  | _ :: _, _, _ :: _, _, ⟨h, t⟩, k => ⟨h, RpP.append t k⟩
  | [], _, _ :: _, _, h, _ => h.elim
  | _ :: _, _, [], _, h, _ => h.elim
theorem putPl_new {k : T2 Int Int} {v : α} : ∀ {xs : List (T2 (T2 Int Int) α)}, atPl k xs = none → putPl k v xs = xs ++ [T2.mk k v]
  | [], _ => rfl
  | x :: xs, h => by
    unfold atPl at h
    unfold putPl
    by_cases e : x.a = k
    · rw [if_pos e] at h
      cases h
    · rw [if_neg e] at h
      rw [if_neg e, putPl_new h]
      rfl
theorem putPl_fst {k : T2 Int Int} {v : α} : ∀ {xs : List (T2 (T2 Int Int) α)}, (atPl k xs).isSome = true → (putPl k v xs).map (·.a) = xs.map (·.a)
  | [], h => by cases h
  | x :: xs, h => by
    unfold atPl at h
    unfold putPl
    by_cases e : x.a = k
    · rw [if_pos e]
      simp [e]
    · rw [if_neg e] at h
      rw [if_neg e, List.map_cons, List.map_cons, putPl_fst h]
theorem atPl_none {k : T2 Int Int} : ∀ {xs : List (T2 (T2 Int Int) α)}, atPl k xs = none ↔ k ∉ xs.map (·.a)
  | [] => by simp [atPl]
  | x :: xs => by
    unfold atPl
    by_cases e : x.a = k
    · rw [if_pos e]
      simp [e]
    · rw [if_neg e, atPl_none (xs := xs), List.map_cons, List.mem_cons, not_or]
      constructor
      · exact fun h => ⟨fun z => e z.symm, h⟩
      · exact fun h => h.2
theorem RpP.repl {G : Hp} {k : T2 Int Int} {u : V} {v : α} (r : rp G u v) : ∀ {ps : List (List Key × V)} {xs : List (T2 (T2 Int Int) α)}, RpP G ps xs → (xs.map (·.a)).Nodup → (atPl k xs).isSome = true → RpP G (ps.map fun kv => if kv.1 = encP k then (kv.1, u) else kv) (putPl k v xs)
  | [], [], _, _, h => by cases h
  | p :: ps, x :: xs, ⟨⟨h1, h2⟩, t⟩, nd, h => by
    rw [List.map_cons, List.nodup_cons] at nd
    unfold atPl at h
    unfold putPl
    rw [List.map_cons]
    by_cases e : x.a = k
    · rw [if_pos e, if_pos (by rw [h1, e])]
      refine ⟨⟨by rw [h1, e], r⟩, ?_⟩
      have hno : ∀ q ∈ ps, ¬ q.1 = encP k := by
        have gen : ∀ {ps : List (List Key × V)} {xs : List (T2 (T2 Int Int) α)}, RpP G ps xs → k ∉ xs.map (·.a) → ∀ q ∈ ps, ¬ q.1 = encP k := by
          intro ps
          induction ps with
          | nil => intro xs _ _ q hq; simp at hq
          | cons q0 ps ih =>
            intro xs h hn q hq
            cases xs with
            | nil => exact h.elim
            | cons y ys =>
              rw [List.map_cons, List.mem_cons, not_or] at hn
              rcases List.mem_cons.mp hq with z | z
              · rw [z, h.1.1]
                intro w
                exact hn.1 (encP_inj w).symm
              · exact ih h.2 hn.2 q z
        exact gen t (e ▸ nd.1)
      rw [show ps.map (fun kv => if kv.1 = encP k then (kv.1, u) else kv) = ps from by
        conv => rhs; rw [← List.map_id ps]
        exact List.map_congr_left fun q hq => if_neg (hno q hq)]
      exact t
    · rw [if_neg e] at h
      rw [if_neg e, if_neg (by rw [h1]; intro z; exact e (encP_inj z))]
      exact ⟨⟨h1, h2⟩, RpP.repl r t nd.2 h⟩
  | [], _ :: _, h, _, _ => h.elim
  | _ :: _, [], h, _, _ => h.elim
theorem RpP.put {G : Hp} {k : T2 Int Int} {u : V} {v : α} (r : rp G u v) {ps : List (List Key × V)} {xs : List (T2 (T2 Int Int) α)} (h : RpP G ps xs) (nd : (xs.map (·.a)).Nodup) : RpP G (putK ps (encP k) u) (putPl k v xs) := by
  have hv := h.val k
  unfold putK
  rw [valV_any]
  cases e : atPl k xs with
  | none =>
    rw [e] at hv
    have e2 : valV ps (encP k) = none := by
      cases z : valV ps (encP k) with
      | none => rfl
      | some w => rw [z] at hv; exact hv.elim
    rw [e2, if_neg (by simp), putPl_new e]
    exact h.append ⟨⟨rfl, r⟩, trivial⟩
  | some w =>
    rw [e] at hv
    have e2 : (valV ps (encP k)).isSome = true := by
      cases z : valV ps (encP k) with
      | none => rw [z] at hv; exact hv.elim
      | some w => rfl
    rw [if_pos e2]
    exact h.repl r nd (by rw [e]; rfl)
theorem putPl_nd {k : T2 Int Int} {v : α} {xs : List (T2 (T2 Int Int) α)} (nd : (xs.map (·.a)).Nodup) : ((putPl k v xs).map (·.a)).Nodup := by
  cases e : atPl k xs with
  | none =>
    rw [putPl_new e, List.map_append, List.nodup_append]
    refine ⟨nd, by simp, fun a ha b hb => ?_⟩
    have hb : b = k := by simpa using hb
    intro z
    exact atPl_none.mp e (by rw [← hb, ← z]; exact ha)
  | some w => rw [putPl_fst (by rw [e]; rfl)]; exact nd
theorem putPl_len {k : T2 Int Int} {v : α} : ∀ xs : List (T2 (T2 Int Int) α), (putPl k v xs).length ≤ xs.length + 1
  | [] => Nat.le_refl _
  | x :: xs => by
    unfold putPl
    split
    · simp
    · have := putPl_len (k := k) (v := v) xs
      simp
      omega
end
def cP1 {α : Type} [Rp α] (d : Dp α) : Cell1 := ⟨fun G o => ∃ ps, o = .dT ps ∧ RpP G ps d.l ∧ (d.l.map (fun x : T2 (T2 Int Int) α => x.a)).Nodup ∧ d.l.length ≤ 1000000, fun e ⟨ps, h, k, n, l⟩ => ⟨ps, h, k.mono e, n, l⟩, fun ⟨_, h, _⟩ z => by rw [h] at z; cases z⟩
abbrev cP {α : Type} [Rp α] (d : Dp α) : Cell := (cP1 d).c
section
variable {α : Type} [Rp α] {K : PySem.W.Frag} {w : World} {τ : Env} {O O1 O2 O3 : Own} {te tp td ty : TE} {G0 : Hp} {D : Ends} {m m' : Dp α} {k : T2 Int Int} {v : α}
theorem tupP {G : Hp} {u : V} (r : rp G u k) : ∃ t, u = .ref t ∧ G t = some (.tup ((encP k).map kV)) := by
  obtain ⟨t, v1, v2, rfl, g, r1, r2⟩ := r
  have r1 : v1 = .int k.a := r1
  have r2 : v2 = .int k.b := r2
  subst r1
  subst r2
  exact ⟨t, rfl, g⟩
theorem ec_pnew : EvC tDNewT τ O (cP (emptyP : Dp α)) O := fun σ G0 G H s w Q q p hp => q p G _ (Ex.refl _) (w.alloc (c := cP1 (emptyP : Dp α)) hp ⟨[], rfl, trivial, List.nodup_nil, Nat.zero_le _⟩)
theorem ev_pin {l : Addr} (j : Nat) (hb : Ev ty τ O k O1) (ha : EvD td τ O1 (dyA l) O2) (hk : O2[j]? = some (l, cP m)) : Ev (tDIn ty td) τ O (hasPd m k) O2 := fun σ G0 G H s w Q q =>
  hb σ G0 G H s w _ fun u G2 H2 e2 w2 r2 => ha σ G0 G2 H2 (s.mono e2) w2 _ fun y G3 H3 e3 w3 r3 => by
    have r3 : y = .ref l := r3
    subst r3
    obtain ⟨_, o, ho, ps, rfl, hr, hn, hl⟩ := w3.get hk
    obtain ⟨t, rfl, ht⟩ := tupP (Rp.mono e3 r2)
    refine ⟨l, _, rfl, DGet.t ho (w3.ex _ _ ht), ?_⟩
    rw [(hr.val k).some_eq]
    exact q _ G3 H3 (e2.trans e3) w3 rfl
theorem ev_pnotin {l : Addr} (j : Nat) (hb : Ev ty τ O k O1) (ha : EvD td τ O1 (dyA l) O2) (hk : O2[j]? = some (l, cP m)) : Ev (tDNotIn ty td) τ O (!hasPd m k) O2 := fun σ G0 G H s w Q q =>
  hb σ G0 G H s w _ fun u G2 H2 e2 w2 r2 => ha σ G0 G2 H2 (s.mono e2) w2 _ fun y G3 H3 e3 w3 r3 => by
    have r3 : y = .ref l := r3
    subst r3
    obtain ⟨_, o, ho, ps, rfl, hr, hn, hl⟩ := w3.get hk
    obtain ⟨t, rfl, ht⟩ := tupP (Rp.mono e3 r2)
    refine ⟨l, _, rfl, DGet.t ho (w3.ex _ _ ht), ?_⟩
    rw [(hr.val k).some_eq]
    exact q _ G3 H3 (e2.trans e3) w3 rfl
theorem nx_pput {l : Addr} (j : Nat) (hv : Ev te τ O v O1) (hp : EvD tp τ O1 (dyA l) O2) (hb : Ev ty τ O2 k O3) (hk : O3[j]? = some (l, cP m)) (hz : putP m k v = some m') (q : Nx G0 D.nx τ (O3.set j (l, cP m'))) :
    Nx G0 (sDPut tp ty te D) τ O := fun σ G H s w => by
  unfold putP at hz
  split at hz
  next hc =>
    cases hz
    have hc : m.l.length < 1000000 := hc
    refine hv σ G0 G H s w _ fun x G1 H1 e1 w1 r1 => hp σ G0 G1 H1 (s.mono e1) w1 _ fun y G2 H2 e2 w2 r2 => hb σ G0 G2 H2 ((s.mono e1).mono e2) w2 _ fun u G3 H3 e3 w3 r3 => ?_
    have r2 : y = .ref l := r2
    subst r2
    obtain ⟨t, rfl, ht⟩ := tupP r3
    obtain ⟨_, o, ho, ps, rfl, hr, hn, hl⟩ := w3.get hk
    refine ⟨l, _, rfl, DPut.t (k := encP k) ho (w3.ex _ _ ht) (Nat.lt_of_lt_of_le (by rw [hr.length]; exact hc) (by decide)), ?_⟩
    refine q σ G3 _ (((s.mono e1).mono e2).mono e3) (w3.put (c' := cP1 ⟨putPl k v m.l⟩) hk ⟨_, rfl, hr.put (Rp.mono (e2.trans e3) r1) hn, putPl_nd hn, ?_⟩)
    have := putPl_len (k := k) (v := v) m.l
    show (putPl k v m.l).length ≤ 1000000
    omega
  next => cases hz
end
end DL
end
section
namespace DL
/-- one thing put behind each of the lists of a list -/
def appAllO {α : Type} (xss : List (List α)) (x : α) : Option (List (List α)) := if xss.all (fun xs => decide (xs.length < LIM)) = true then some (xss.map (· ++ [x])) else none
/-- sorted(d), a dict of few numbers -/
def srtDO {α : Type} (m : Dc α) : Option (List Int) := if m.l.length < 64 then some (isrt (keysD m)) else none
end DL
end
section
namespace DL
open PySem PySem.Spec PyProof.Rows L2
open Rp (rp)
theorem Sl.forget {G : Hp} {v : Option V} : ∀ {σ : L2.St} {τ : Env} (i : Nat), Sl G σ τ → Sl G (σ.set i v) (τ.set i none)
  | [], [], _, _ => trivial
  | _ :: _, _ :: _, 0, ⟨_, t⟩ => ⟨by cases v <;> trivial, t⟩
  | _ :: _, _ :: _, i + 1, ⟨h, t⟩ => ⟨h, Sl.forget i t⟩
  | [], _ :: _, _, h => h.elim
  | _ :: _, [], _, h => h.elim
theorem Sl.len {G : Hp} : ∀ {σ : L2.St} {τ : Env}, Sl G σ τ → σ.length = τ.length
  | [], [], _ => rfl
  | _ :: _, _ :: _, ⟨_, t⟩ => congrArg (· + 1) (Sl.len t)
  | [], _ :: _, h => h.elim
  | _ :: _, [], h => h.elim
section
variable {α β γ : Type} [Rp α] [Rp β] [Rp γ] {K : PySem.W.Frag} {τ : Env} {O O1 : Own} {te tp : TE} {G0 : Hp} {D : Ends} {d d1 d2 d3 : Dyn} {K1 K2 K3 : Own → Prop}
theorem W.addr {G G0 H : Hp} {k : Nat} {L : Addr} {xss : List (List α)} (w : W G0 G O H) (hk : O[k]? = some (L, cN xss)) : ∃ as : List Addr, H L = some (.lst (as.map V.ref)) ∧ as.length = xss.length := by
  obtain ⟨as, hl, w1⟩ := (w.front hk).unpack
  obtain ⟨_, o, hL, rfl, hn⟩ := w1.own (List.mem_cons_self ..)
  exact ⟨as, hL, by rw [hl, List.length_map]⟩
/-- the place of a list within a list of such; the outer one stays -/
theorem W.kidA {G0 G H : Hp} {k : Nat} {L : Addr} {xss : List (List α)} {j : Nat} {xs : List α} {as : List Addr} (w : W G0 G O H) (hL0 : H L = some (.lst (as.map V.ref))) (hk : O[k]? = some (L, cN xss)) (hj : xss[j]? = some xs) :
    ∃ (b : Addr) (vs : List V), as[j]? = some b ∧ H b = some (.lst vs) ∧ RpL G vs xs ∧ xs.length ≤ 1000000 ∧ ∀ (H2 G2 : Hp) (us : List V) (ys : List α), Ex H H2 → W G0 G2 O H2 → RpL G2 us ys → ys.length ≤ 1000000 → W G0 G2 (O.set k (L, cN (xss.set j ys))) (upd H2 b (.lst us)) ∧ upd H2 b (.lst us) L = some (.lst (as.map V.ref)) := by
  obtain ⟨as0, hl, w1⟩ := (w.front hk).unpack
  obtain ⟨_, o, hL, rfl, hn⟩ := w1.own (List.mem_cons_self ..)
  have e0 : as0 = as := by
    rw [hL0] at hL
    exact (refs_inj (HO.lst.inj (Option.some.inj hL))).symm
  subst e0
  have hl2 : as0.length = xss.length := by rw [hl, List.length_map]
  have hj2 : j < as0.length := by
    rw [hl2]
    exact (List.getElem?_eq_some_iff.mp hj).1
  have hb : as0[j]? = some as0[j] := List.getElem?_eq_getElem hj2
  have hc : (xss.map cL)[j]? = some (cL xs) := by
    rw [List.getElem?_map, hj]
    rfl
  have hz : (as0.zip (xss.map cL) ++ O.eraseIdx k)[j]? = some (as0[j], cL xs) := by
    rw [List.getElem?_append_left (by rw [List.length_zip, ← hl]; omega)]
    exact zip_get hb hc
  obtain ⟨_, o, ho, vs, rfl, hr, hx⟩ := w1.own (List.mem_cons_of_mem _ (List.mem_of_getElem? hz))
  refine ⟨as0[j], vs, hb, ho, hr, hx, fun H2 G2 us ys eh w2 hu hy => ?_⟩
  obtain ⟨as', hl', w3⟩ := (w2.front hk).unpack
  obtain ⟨_, o', hL', rfl, _⟩ := w3.own (List.mem_cons_self ..)
  have e : as' = as0 := by
    have e1 := eh _ _ hL
    rw [hL'] at e1
    exact refs_inj (HO.lst.inj (Option.some.inj e1))
  subst e
  have w4 := w3.put (k := j + 1) (c' := cL1 ys) (o := .lst us) hz ⟨us, rfl, hu, hy⟩
  have e2 : ((L, (nN.c1 L as').c) :: (as'.zip (xss.map cL) ++ O.eraseIdx k)).set (j + 1) (as'[j], cL ys) = (L, (nN.c1 L as').c) :: (as'.zip ((xss.set j ys).map cL) ++ O.eraseIdx k) := by
    rw [List.set_cons_succ, List.set_append_left _ _ (by rw [List.length_zip, ← hl]; omega), zip_set hl hb, List.map_set]
  rw [e2] at w4
  have hk2 := (List.getElem?_eq_some_iff.mp hk).1
  obtain ⟨_, o5, hL5, rfl, _⟩ := w4.own (List.mem_cons_self ..)
  exact ⟨(w4.pack (by rw [hl2, List.length_map, List.length_set])).perm (perm_back hk2), hL5⟩
def mixA {α : Type} (xss : List (List α)) (x : α) (j : Nat) : List (List α) := (xss.take j).map (· ++ [x]) ++ xss.drop j
theorem mixA_at {xss : List (List α)} {x : α} {j : Nat} (hj : j < xss.length) : (mixA xss x j)[j]? = some xss[j] := by
  unfold mixA
  rw [List.getElem?_append_right (by rw [List.length_map, List.length_take]; omega), List.length_map, List.length_take, List.getElem?_drop, show j + (j - min j xss.length) = j by omega, List.getElem?_eq_getElem hj]
theorem mixA_set {xss : List (List α)} {x : α} {j : Nat} (hj : j < xss.length) : (mixA xss x j).set j (xss[j] ++ [x]) = mixA xss x (j + 1) := by
  unfold mixA
  rw [List.set_append_right _ _ (by rw [List.length_map, List.length_take]; omega), List.length_map, List.length_take, show j - min j xss.length = 0 by omega, List.drop_eq_getElem_cons hj, List.set_cons_zero, List.take_add_one, List.getElem?_eq_getElem hj, List.map_append, List.append_assoc]
  rfl
/-- for x in xss: x.append(e) -/
theorem nx_forApp [Tp α] {i k : Nat} {l : Addr} {xss yss : List (List α)} {x : α} (hp : EvD tp τ O (dyA l) O) (hk : O[k]? = some (l, cN xss)) (he : Ev te (τ.set i none) [] x []) (hil : i < τ.length) (hz : appAllO xss x = some yss) (q : Nx G0 D.nx (τ.set i none) (O.set k (l, cN yss))) :
    Nx G0 (tFor (iList K tp) (gName i) (tDrop (tBM K "list" rAppend (tVar i) (tCons te tNil))) D) τ O := fun σ G H s w =>
  hp σ G0 G H s w _ fun v G2 H2 e2 w2 r2 => by
    have r2 : v = .ref l := r2
    subst r2
    unfold appAllO at hz
    split at hz
    case isFalse => cases hz
    next hc =>
    cases hz
    have hb : ∀ xs ∈ xss, xs.length < 1000000 := fun xs hx => of_decide_eq_true (List.all_eq_true.mp hc xs hx)
    obtain ⟨as, hL, hla⟩ := w2.addr hk
    have hkl := (List.getElem?_eq_some_iff.mp hk).1
    refine ⟨l, rfl, ⟨as.map V.ref, .inl (.inl hL)⟩, for_list (fun j σ' H' => H' l = some (.lst (as.map V.ref)) ∧ ∃ G', Sl G' σ' (τ.set i none) ∧ σ'.length = τ.length ∧ W G0 G' (O.set k (l, cN (mixA xss x j))) H') ⟨hL, G2, ?_, ?_, ?_⟩ (fun j σ' H' _ p => .inl (.inl p.1)) (fun j u σ' H' hj ⟨p1, G', p2, p4, p3⟩ => ?_) fun σ' H' ⟨_, G', p2, _, p3⟩ => ?_⟩
    · have h0 := Sl.forget (v := σ[i]?.getD none) i (s.mono e2)
      have e : σ.set i (σ[i]?.getD none) = σ := by
        apply List.ext_getElem?
        intro m
        by_cases em : i = m
        · subst em
          by_cases hm : i < σ.length
          · rw [List.getElem?_set_self hm, List.getElem?_eq_getElem hm]
            rfl
          · rw [List.getElem?_eq_none (by rw [List.length_set]; omega), List.getElem?_eq_none (by omega)]
        · rw [List.getElem?_set_ne em]
      rw [e] at h0
      exact h0
    · exact s.len
    · have e : O.set k (l, cN (mixA xss x 0)) = O := by
        have : mixA xss x 0 = xss := by unfold mixA; simp
        rw [this]
        apply List.ext_getElem?
        intro m
        by_cases em : k = m
        · subst em
          rw [List.getElem?_set_self hkl, hk]
        · rw [List.getElem?_set_ne em]
      rw [e]
      exact w2
    · rw [List.getElem?_map] at hj
      obtain ⟨b, hbj, e⟩ := Option.map_eq_some_iff.mp hj
      subst e
      have hjl : j < xss.length := by
        have := (List.getElem?_eq_some_iff.mp hbj).1
        omega
      obtain ⟨b2, vs, hb2, ho, hr, hx, back⟩ := p3.kidA p1 (List.getElem?_set_self hkl) (mixA_at hjl)
      have eb : b2 = b := by
        rw [hbj] at hb2
        exact (Option.some.inj hb2).symm
      subst eb
      have sl : Sl G' (σ'.set i (some (.ref b2))) (τ.set i none) := by
        have := Sl.forget (v := some (.ref b2)) i p2
        rw [List.set_set] at this
        exact this
      have hv : (σ'.set i (some (V.ref b2)))[i]? = some (some (V.ref b2)) := List.getElem?_set_self (by omega)
      have hlt := hb _ (List.getElem_mem hjl)
      show tDrop (tBM K "list" rAppend (tVar i) (tCons te tNil)) _ (σ'.set i (some (.ref b2))) H'
      refine ⟨_, hv, .inl ⟨rfl, vs, .inl (.inl ho)⟩, ev_frame he sl p3 fun v G3 H3 e3 eh w3 r3 => ⟨b2, vs, v, rfl, rfl, eh _ _ ho, Nat.lt_of_lt_of_le (by rw [hr.length]; exact hlt) (by decide), ?_⟩⟩
      obtain ⟨w5, hL5⟩ := back H3 G3 (vs ++ [v]) (xss[j] ++ [x]) eh w3 ((hr.mono e3).append ⟨r3, trivial⟩) (by rw [List.length_append]; show xss[j].length + 1 ≤ 1000000; omega)
      rw [mixA_set hjl, List.set_set] at w5
      exact ⟨hL5, G3, sl.mono e3, by rw [List.length_set]; exact p4, w5⟩
    · have e : mixA xss x (as.map V.ref).length = xss.map (· ++ [x]) := by
        unfold mixA
        rw [List.length_map, hla, List.take_length, List.drop_length, List.append_nil]
      rw [e] at p3
      exact q σ' G' H' p2 p3
/-! ### a tuple of one's own things, read -/
def Rd2 (d d' : Dyn) (Kp : Own → Prop) : Prop := ∀ (G0 G H : Hp) (O : Own), W G0 G O H → Kp O → ∀ v, d.P G v → d'.P H v
theorem rd_fr {x : α} : Rd2 (dy x) (dy x) KT := fun _ _ _ _ w _ _ h => Rp.mono w.ex h
theorem rd_L {xs : List α} {l : Addr} : Rd2 (dyA l) (dy xs) (KO l (cL xs)) := fun G0 G H O w ⟨k, hk⟩ v h => by
  have h : v = .ref l := h
  subst h
  obtain ⟨_, o, ho, vs, rfl, hr, hl⟩ := w.get hk
  exact ⟨l, vs, rfl, ho, hr.mono w.ex, hl⟩
theorem rd_N {xss : List (List α)} {l : Addr} : Rd2 (dyA l) (dy xss) (KO l (cN xss)) := fun G0 G H O w ⟨k, hk⟩ v h => by
  have h : v = .ref l := h
  subst h
  obtain ⟨vs, ho, hr, hl⟩ := (w.front hk).lookN
  exact ⟨l, vs, rfl, ho, hr, hl⟩
theorem er_tup3 {a : α} {b : β} {c : γ} (h : EvD te τ O (dyT3 d1 d2 d3) O1) (r1 : Rd2 d1 (dy a) K1) (r2 : Rd2 d2 (dy b) K2) (r3 : Rd2 d3 (dy c) K3) : EvR te τ O (dy (T3.mk a b c)) O1 (fun O => K1 O ∧ K2 O ∧ K3 O) := fun σ G0 G H s w Q q => h σ G0 G H s w _ fun v G2 H2 e2 w2 ⟨t, v1, v2, v3, e, g, h1, h2, h3⟩ => q v G2 H2 e2 w2 fun G0 G3 H3 O3 e3 w3 ⟨k1, k2, k3⟩ =>
  ⟨t, v1, v2, v3, e, w3.ex _ _ (e3 _ _ g), r1 G0 G3 H3 O3 w3 k1 v1 (d1.mono e3 h1), r2 G0 G3 H3 O3 w3 k2 v2 (d2.mono e3 h2), r3 G0 G3 H3 O3 w3 k3 v3 (d3.mono e3 h3)⟩
theorem ev_notB {ta tb : TE} {O2 : Own} {a b : Bool} (ha : Ev ta τ O a O1) (hb : Ev tb τ O1 b O2) : Ev (tOp rNotB ta tb) τ O (!decide (a = b)) O2 := fun σ G0 G H s w Q q =>
  ha σ G0 G H s w _ fun v G2 H2 e2 w2 r2 => hb σ G0 G2 H2 (s.mono e2) w2 _ fun v3 G3 H3 e3 w3 r3 => ⟨a, b, r2, r3, q _ G3 H3 (e2.trans e3) w3 rfl⟩
theorem EvU.frN3 {x : T3 α β (List (List γ))} (h : EvU te τ O [cN x.c] (fun as => dyT3 (dy x.a) (dy x.b) (dyA (as.getD 0 default))) O1) : Ev te τ O x O1 := fun σ G0 G H s w Q q => h σ G0 G H s w Q fun as v G2 H2 hl e2 w2 r2 => by
  match as, hl with
  | [a], _ =>
    obtain ⟨t, v1, v2, v3, e1, g, h1, h2, h3⟩ := r2
    have h3 : v3 = .ref a := h3
    obtain ⟨G4, e4, w4, r4⟩ := W.freezeN (p := a) (xss := x.c) w2
    exact q v G4 H2 (e2.trans e4) w4 ⟨t, v1, v2, v3, e1, e4 _ _ g, Rp.mono e4 h1, Rp.mono e4 h2, by rw [h3]; exact r4⟩
end
end DL
end
section
namespace DL
/-! ### texts -/
structure Tx where
  cs : List Nat
  deriving DecidableEq, Repr
def catX (x y : Tx) : Option Tx := if x.cs.length + y.cs.length ≤ LIM then some ⟨x.cs ++ y.cs⟩ else none
def lenX (x : Tx) : Int := x.cs.length
def sIxX (n d : Nat) : Option Int → Nat
  | none => d
  | some v => if v < 0 then (v + (n : Int)).toNat else min v.toNat n
def cutX (x : Tx) (lo hi : Option Int) : Tx := ⟨(x.cs.drop (sIxX x.cs.length 0 lo)).take (sIxX x.cs.length x.cs.length hi - sIxX x.cs.length 0 lo)⟩
def ixX (x : Tx) (i : Int) : Option Tx := (ixO x.cs i).map fun c => ⟨[c]⟩
def inX (x y : Tx) : Option Bool := match x.cs with
  | [c] => some (decide (c ∈ y.cs))
  | _ => none
def signsX (x : Tx) : List Tx := x.cs.map fun c => ⟨[c]⟩
def joinN (s : List Nat) : List (List Nat) → List Nat
  | [] => []
  | [p] => p
  | p :: q :: r => p ++ (s ++ joinN s (q :: r))
def joinX (s : Tx) (xs : List Tx) : Option Tx := if (xs.map (·.cs.length)).sum + xs.length * s.cs.length ≤ LIM then some ⟨joinN s.cs (xs.map (·.cs))⟩ else none
def splN (c : Nat) : List Nat → List Nat → List (List Nat)
  | acc, [] => [acc]
  | acc, d :: r => if d = c then acc :: splN c [] r else splN c (acc ++ [d]) r
def splitX (x s : Tx) : Option (List Tx) := match s.cs with
  | [c] => if x.cs.length + 2 ≤ LIM then some ((splN c [] x.cs).map Tx.mk) else none
  | _ => none
def numN (n : Nat) : List Nat := (Nat.toDigits 10 n).map Char.toNat
def strX (n : Int) : Tx := ⟨if n < 0 then 45 :: numN n.natAbs else numN n.natAbs⟩
def strO (n : Int) : Option Tx := if n.natAbs < 10 ^ 400 then some (strX n) else none
def digs (cs : List Nat) : Bool := cs.all fun c => decide (48 ≤ c ∧ c ≤ 57)
def valN (cs : List Nat) : Nat := cs.foldl (fun acc c => acc * 10 + (c - 48)) 0
def intX (x : Tx) : Option Int := if 640 < x.cs.length then none else match x.cs with
  | [] => none
  | c :: ds => if c = 45 then (if ds ≠ [] ∧ digs ds = true then some (-(valN ds : Int)) else none) else (if digs (c :: ds) = true then some (valN (c :: ds) : Int) else none)
theorem sIxX_le (n : Nat) (o : Option Int) {d : Nat} (hd : d ≤ n) : sIxX n d o ≤ max n (n + n) := by
  cases o with
  | none => show d ≤ _; omega
  | some v =>
    unfold sIxX
    dsimp only
    split <;> omega
theorem joinN_len (s : List Nat) : ∀ xs : List (List Nat), (joinN s xs).length ≤ (xs.map List.length).sum + xs.length * s.length
  | [] => Nat.zero_le _
  | [p] => by simp [joinN]
  | p :: q :: r => by
    have := joinN_len s (q :: r)
    show (p ++ (s ++ joinN s (q :: r))).length ≤ _
    rw [List.length_append, List.length_append, List.map_cons, List.sum_cons, List.length_cons, Nat.add_mul]
    omega
theorem joinN_mem {s : List Nat} {c : Nat} : ∀ {xs : List (List Nat)}, c ∈ joinN s xs → c ∈ s ∨ ∃ x ∈ xs, c ∈ x
  | [], h => by simp [joinN] at h
  | [p], h => .inr ⟨p, List.mem_singleton.mpr rfl, h⟩
  | p :: q :: r, h => by
    have h : c ∈ p ++ (s ++ joinN s (q :: r)) := h
    rcases List.mem_append.mp h with m | m
    · exact .inr ⟨p, List.mem_cons_self .., m⟩
    · rcases List.mem_append.mp m with m | m
      · exact .inl m
      · rcases joinN_mem m with m | ⟨x, hx, m⟩
        · exact .inl m
        · exact .inr ⟨x, List.mem_cons_of_mem _ hx, m⟩
theorem splN_mem {c d : Nat} : ∀ {l acc x : List Nat}, x ∈ splN c acc l → d ∈ x → d ∈ acc ∨ d ∈ l
  | [], acc, x, h, hd => by
    rw [List.mem_singleton.mp h] at hd
    exact .inl hd
  | e :: r, acc, x, h, hd => by
    unfold splN at h
    split at h
    · rcases List.mem_cons.mp h with m | m
      · rw [m] at hd
        exact .inl hd
      · rcases splN_mem m hd with k | k
        · simp at k
        · exact .inr (List.mem_cons_of_mem _ k)
    · rcases splN_mem h hd with k | k
      · rcases List.mem_append.mp k with k | k
        · exact .inl k
        · rw [List.mem_singleton.mp k]
          exact .inr (List.mem_cons_self ..)
      · exact .inr (List.mem_cons_of_mem _ k)
theorem splN_len {c : Nat} : ∀ {l acc x : List Nat}, x ∈ splN c acc l → x.length ≤ acc.length + l.length
  | [], acc, x, h => by
    rw [List.mem_singleton.mp h]
    simp
  | e :: r, acc, x, h => by
    unfold splN at h
    rw [List.length_cons]
    split at h
    · rcases List.mem_cons.mp h with m | m
      · rw [m]; omega
      · have := splN_len m
        simp at this
        omega
    · have := splN_len h
      rw [List.length_append] at this
      simp at this
      omega
theorem splN_many (c : Nat) : ∀ l acc : List Nat, (splN c acc l).length ≤ l.length + 1
  | [], acc => by simp [splN]
  | e :: r, acc => by
    unfold splN
    rw [List.length_cons]
    split
    · rw [List.length_cons]
      have := splN_many c r []
      omega
    · have := splN_many c r (acc ++ [e])
      omega
end DL
end
section
namespace DL
open PySem PySem.Spec PySem.W PyProof.Rows L2
open Rp (rp)
/-! ### texts, held -/
abbrev stx (x : Tx) : Str := ⟨x.cs.toArray⟩
def OkX (x : Tx) : Prop := (∀ c ∈ x.cs, c < 128) ∧ x.cs.length ≤ 1000000
theorem stx_inj {x y : Tx} (h : stx x = stx y) : x = y := by
  have h1 := Str.mk.inj h
  have h2 : x.cs = y.cs := by simpa using h1
  cases x; cases y
  congr 1
theorem stx_ok {x : Tx} (h : OkX x) : PyData.strOk (stx x) = true := by
  unfold PyData.strOk
  rw [Array.all_eq_true]
  intro i hi
  rw [List.getElem_toArray, decide_eq_true_eq]
  have := h.1 _ (List.getElem_mem (by simpa using hi))
  omega
instance : Rp Tx := ⟨fun _ v x => v = .str (stx x) ∧ OkX x, fun _ h => h⟩
theorem rp_tx {G : Hp} {v : V} {x : Tx} (h : rp G v x) : v = .str (stx x) ∧ OkX x := h
instance : Sc Tx := ⟨fun {G v u x y} h k => by
  obtain ⟨rfl, _⟩ := rp_tx h
  obtain ⟨rfl, _⟩ := rp_tx k
  exact ⟨rfl, fun e => stx_inj (V.str.inj e), fun e => by rw [e]⟩⟩
instance : NN Tx := ⟨fun {G v x} h => by
  rw [(rp_tx h).1]
  exact fun z => nomatch z⟩
instance : Tp Tx := ⟨fun _ h => h⟩
instance : Ty Tx := ⟨"str", fun {K G v x} h => by
  rw [(rp_tx h).1]
  exact .base (.str _)⟩
instance : Dt Tx := ⟨fun x => .str (stx x), 0, fun {K G v x} h => by
  rw [(rp_tx h).1]
  exact .str _, fun {G v x} h => ⟨by simp [PyData.canLay0, stx_ok (rp_tx h).2], by simp [PyData.depth]⟩⟩
instance : Dz Tx := ⟨fun x => by show PyData.eqv (.str _) .none = false ∧ PyData.eqv .none (.str _) = false; simp [PyData.eqv]⟩
instance : De Tx := ⟨fun x y => by
  show PyData.eqv (.str (stx x)) (.str (stx y)) = _
  rw [PyData.eqv]
  by_cases e : x = y
  · subst e
    simp
  · have : ¬ stx x = stx y := fun z => e (stx_inj z)
    simp [e, this]⟩
instance : Dl Tx := ⟨fun {G v x} h => by
  rw [(rp_tx h).1]
  exact .str _, fun x => by show PyData.depth (.str _) ≤ _; simp [PyData.depth]⟩
instance : Da Tx := ⟨fun n x y _ => by
  show alikeN n (.str (stx x)) (.str (stx y)) = _
  rw [alike_scal rfl]
  show (true && true && (true && PyData.eqv (.str (stx x)) (.str (stx y)))) = _
  rw [show PyData.eqv (.str (stx x)) (.str (stx y)) = decide (x = y) from De.de x y]
  simp⟩
def okB (l : List Nat) : Bool := l.all (fun c => decide (c < 128)) && decide (l.length ≤ 1000000)
theorem okB_ok {x : Tx} (h : okB x.cs = true) : OkX x := by
  unfold okB at h
  rw [Bool.and_eq_true, List.all_eq_true, decide_eq_true_eq] at h
  exact ⟨fun c hc => of_decide_eq_true (h.1 c hc), h.2⟩
section
variable {α : Type} [Rp α] {K : PySem.W.Frag} {w : World} {τ : Env} {O O1 O2 O3 : Own} {ta tb tc te tl : TE} {x y z : Tx} {a b : Int} {Kp : Own → Prop}
theorem ev_tx (s : String) (l : List Nat) (h : s.toList.map Char.toNat = l) (k : okB l = true) : Ev (tC (.str (Str.ofString s))) τ O (Tx.mk l) O := fun σ G0 G H sl w Q q => q _ G H (Ex.refl _) w ⟨by
  subst h
  show V.str (Str.ofString s) = V.str _
  rw [Str.ofString_eq_toList], okB_ok k⟩
def rCatX : V → V → Hp → VK → Prop := fun x y H Q => ∃ i j, x = .str i ∧ y = .str j ∧ i.length + j.length ≤ sizeLine ∧ Q (.str (i ++ j)) H
theorem ko_catX {X : Cx} : OpR X (binaryOp .Add) rCatX := op_add_str
theorem stx_len (x : Tx) : (stx x).length = x.cs.length := by
  show (stx x).cps.size = _
  simp
theorem tl_stx (x : Tx) : TL.tl (stx x) = x.cs := rfl
theorem ev_catX (ha : Ev ta τ O x O1) (hb : Ev tb τ O1 y O2) (h : catX x y = some z) : Ev (tOp rCatX ta tb) τ O z O2 := fun σ G0 G H s w Q q =>
  ha σ G0 G H s w _ fun v G2 H2 e2 w2 r2 => hb σ G0 G2 H2 (s.mono e2) w2 _ fun u G3 H3 e3 w3 r3 => by
    obtain ⟨rfl, k2⟩ := rp_tx r2
    obtain ⟨rfl, k3⟩ := rp_tx r3
    unfold catX at h
    split at h
    · next hl =>
      cases h
      have hl : x.cs.length + y.cs.length ≤ 1000000 := hl
      refine ⟨_, _, rfl, rfl, by rw [stx_len, stx_len]; exact sz_small hl, q _ G3 H3 (e2.trans e3) w3 ⟨?_, fun c hc => ?_, by rw [List.length_append]; exact hl⟩⟩
      · congr 1
        exact TL.ext_tl (by rw [TL.tl_append])
      · rcases List.mem_append.mp hc with m | m
        · exact k2.1 c m
        · exact k3.1 c m
    · cases h
def rLenX : List V → Hp → VK → Prop := fun xs H Q => ∃ z, xs = [.str z] ∧ z.length ≤ sizeLine ∧ Q (.int z.length) H
theorem kc_lenX {X : Cx} : CallR X (.builtin "len") rLenX := call_len_str
theorem ev_lenX (ha : Ev ta τ O x O1) : Ev (tCB rLenX (tCons ta tNil)) τ O (lenX x) O1 := fun σ G0 G H s w Q q =>
  ha σ G0 G H s w _ fun v G2 H2 e2 w2 r2 => by
    obtain ⟨rfl, k2⟩ := rp_tx r2
    exact ⟨_, rfl, by rw [stx_len]; exact sz_small k2.2, q _ G2 H2 e2 w2 (by rw [stx_len]; rfl)⟩
theorem ev_ixX (ha : Ev ta τ O x O1) (hb : Ev tb τ O1 a O2) (h : ixX x a = some y) : Ev (tOp rIxS ta tb) τ O y O2 := fun σ G0 G H s w Q q =>
  ha σ G0 G H s w _ fun v G2 H2 e2 w2 r2 => hb σ G0 G2 H2 (s.mono e2) w2 _ fun u G3 H3 e3 w3 r3 => by
    obtain ⟨rfl, k2⟩ := rp_tx r2
    unfold ixX at h
    cases e : ixO x.cs a with
    | none => rw [e] at h; cases h
    | some c =>
      rw [e] at h
      cases h
      obtain ⟨j, hj, hx⟩ := ixO_ok e
      refine ⟨_, a, c, rfl, r3, by rw [stx_len]; exact sz_small k2.2, ?_, q _ G3 H3 (e2.trans e3) w3 ⟨rfl, fun d hd => ?_, by show 1 ≤ 1000000; decide⟩⟩
      · unfold atI
        show (ixN x.cs.length a).bind _ = _
        rw [show ixN x.cs.length a = some j from hj]
        exact hx
      · rw [List.mem_singleton.mp hd]
        exact k2.1 c (List.mem_of_getElem? hx)
theorem sIxX_eq (n d : Nat) (o : Option Int) : HT.sIx n d o = sIxX n d o := by cases o <;> rfl
theorem ev_cutX {tlo thi : TO} {lo hi : Option Int} (ha : Ev ta τ O x O1) (h1 : EvO tlo τ O1 lo O2) (h2 : EvO thi τ O2 hi O3) : Ev (tSl rSlS ta tlo thi) τ O (cutX x lo hi) O3 := fun σ G0 G H s w Q q =>
  ha σ G0 G H s w _ fun v G2 H2 e2 w2 r2 => h1 σ G0 G2 H2 (s.mono e2) w2 _ fun G3 H3 e3 w3 => h2 σ G0 G3 H3 ((s.mono e2).mono e3) w3 _ fun G4 H4 e4 w4 => by
    obtain ⟨rfl, k2⟩ := rp_tx r2
    refine ⟨_, rfl, by rw [stx_len]; exact sz_small k2.2, q _ G4 H4 ((e2.trans e3).trans e4) w4 ⟨?_, fun c hc => ?_, ?_⟩⟩
    · unfold cutS
      rw [sIxX_eq, sIxX_eq, stx_len]
      rfl
    · exact k2.1 c (List.mem_of_mem_drop (List.mem_of_mem_take hc))
    · show ((x.cs.drop _).take _).length ≤ _
      rw [List.length_take, List.length_drop]
      have := k2.2
      omega
def rInX : V → V → Hp → VK → Prop := fun x y H Q => ∃ (c : Nat) (z : Str), x = .str ⟨#[c]⟩ ∧ y = .str z ∧ Q (.bl (decide (c ∈ z.cps.toList))) H
def rNotInX : V → V → Hp → VK → Prop := fun x y H Q => ∃ (c : Nat) (z : Str), x = .str ⟨#[c]⟩ ∧ y = .str z ∧ Q (.bl (!decide (c ∈ z.cps.toList))) H
theorem ko_inX {X : Cx} : OpR X (compareOp .In) rInX := op_in_sign
theorem ko_notInX {X : Cx} : OpR X (compareOp .NotIn) rNotInX := op_notIn_sign
theorem inX_one {k : Bool} (h : inX x y = some k) : ∃ c, x.cs = [c] ∧ k = decide (c ∈ y.cs) := by
  unfold inX at h
  split at h
  · next c e => exact ⟨c, e, (Option.some.inj h).symm⟩
  · cases h
theorem ev_inX {k : Bool} (ha : Ev ta τ O x O1) (hb : Ev tb τ O1 y O2) (h : inX x y = some k) : Ev (tOp rInX ta tb) τ O k O2 := fun σ G0 G H s w Q q =>
  ha σ G0 G H s w _ fun v G2 H2 e2 w2 r2 => hb σ G0 G2 H2 (s.mono e2) w2 _ fun u G3 H3 e3 w3 r3 => by
    obtain ⟨rfl, k2⟩ := rp_tx r2
    obtain ⟨rfl, k3⟩ := rp_tx r3
    obtain ⟨c, e, rfl⟩ := inX_one h
    exact ⟨c, stx y, by unfold stx; rw [e], rfl, q _ G3 H3 (e2.trans e3) w3 rfl⟩
theorem ev_notInX {k : Bool} (ha : Ev ta τ O x O1) (hb : Ev tb τ O1 y O2) (h : inX x y = some k) : Ev (tOp rNotInX ta tb) τ O (!k) O2 := fun σ G0 G H s w Q q =>
  ha σ G0 G H s w _ fun v G2 H2 e2 w2 r2 => hb σ G0 G2 H2 (s.mono e2) w2 _ fun u G3 H3 e3 w3 r3 => by
    obtain ⟨rfl, k2⟩ := rp_tx r2
    obtain ⟨rfl, k3⟩ := rp_tx r3
    obtain ⟨c, e, rfl⟩ := inX_one h
    exact ⟨c, stx y, by unfold stx; rw [e], rfl, q _ G3 H3 (e2.trans e3) w3 rfl⟩
theorem wk_signs (ha : Ev ta τ O x O1) : Wk (iStr ta) τ O (signsX x) O1 KT := fun σ G0 G H s w R q =>
  ha σ G0 G H s w _ fun v G2 H2 e2 w2 r2 => by
    obtain ⟨rfl, k2⟩ := rp_tx r2
    refine ⟨_, rfl, q _ G2 H2 e2 w2 (fun G0' G3 H3 O3 i e3 w3 k3 => ⟨fun z hz => ?_, fun hi => ?_⟩) (by unfold signsX; rw [List.length_map]; exact k2.2)⟩
    · unfold signsX at hz
      rw [List.getElem?_map] at hz
      cases e : x.cs[i]? with
      | none => rw [e] at hz; cases hz
      | some c =>
        rw [e] at hz
        cases hz
        refine ⟨?_, fun v' H' hy => ?_⟩
        · have := (List.getElem?_eq_some_iff.mp e).1
          show i < (stx x).cps.size
          simpa using this
        · obtain ⟨rfl, d, hd, rfl⟩ := hy
          have hd : (stx x).cps[i]? = some d := hd
          have : x.cs[i]? = some d := by simpa using hd
          rw [e] at this
          cases this
          exact ⟨G3, Ex.refl _, w3, rfl, fun d hd => by rw [List.mem_singleton.mp hd]; exact k2.1 c (List.mem_of_getElem? e), by show 1 ≤ 1000000; decide⟩
    · unfold signsX at hi
      rw [List.length_map] at hi
      show (stx x).cps.size ≤ i
      simpa using hi
theorem rpl_tx {H : Hp} : ∀ {vs : List V} {xs : List Tx}, RpL H vs xs → vs = (xs.map stx).map V.str ∧ ∀ x ∈ xs, OkX x
  | [], [], _ => ⟨rfl, fun x hx => by simp at hx⟩
  | v :: vs, x :: xs, ⟨h, t⟩ => by
    obtain ⟨e, k⟩ := rp_tx h
    obtain ⟨e2, k2⟩ := rpl_tx t
    refine ⟨by rw [e, e2]; rfl, fun y hy => ?_⟩
    rcases List.mem_cons.mp hy with m | m
    · rw [m]; exact k
    · exact k2 y m
  | [], _ :: _, h => h.elim
  | _ :: _, [], h => h.elim
theorem joinL_eq (s : List Nat) : ∀ xs : List (List Nat), TL.joinL s xs = joinN s xs
  | [] => rfl
  | [p] => rfl
  | p :: q :: r => by
    show p ++ (s ++ TL.joinL s (q :: r)) = p ++ (s ++ joinN s (q :: r))
    rw [joinL_eq s (q :: r)]
abbrev rJoinX (K : PySem.W.Frag) : V → List V → Hp → VK → Prop := fun x xs H Q => ∃ a p, ∃ ys : List Str, x = .str a ∧ xs = [.ref p] ∧ (SqL K H p (ys.map V.str) ∨ SqT K H p (ys.map V.str)) ∧
      (ys.map (·.length)).sum + ys.length * a.length ≤ 16777216 ∧ Q (.str (Txt.join a ys)) H
theorem pe_joinX {X : Cx} (K : PySem.W.Frag) (hK : X.K = K) {o e : Expr} {to te : TE} {apos pos : Pos} (ho : PE X o to) (he : PE X e te) (hs : starEach [e] X.env = [(false, eval e X.env)] := by rfl) (hbase : attributeBase o "join" X.env (eval o X.env) = eval o X.env := by rfl) (hline : (apos.endLine == pos.line) = true := by rfl) : PE X (.Call (.Attribute o "join" apos) [e] [] pos) (tM1 (rJoinX K) to te) := by
  subst hK
  exact pe_join ho he hs hbase hline
abbrev rSplitX : V → List V → Hp → VK → Prop := fun x xs H Q => ∃ a b, x = .str a ∧ xs = [.str b] ∧ (b.length == 0) = false ∧ a.length + 2 ≤ sizeLine ∧ rNewStrs (Txt.split a b) H Q
theorem pe_splitX {X : Cx} {o e : Expr} {to te : TE} {apos pos : Pos} (ho : PE X o to) (he : PE X e te) (hs : starEach [e] X.env = [(false, eval e X.env)] := by rfl) (hbase : attributeBase o "split" X.env (eval o X.env) = eval o X.env := by rfl) (hline : (apos.endLine == pos.line) = true := by rfl) : PE X (.Call (.Attribute o "split" apos) [e] [] pos) (tM1 rSplitX to te) := pe_split ho he hs hbase hline
theorem ev_joinX {xs : List Tx} (ha : Ev ta τ O x O1) (hb : EvLs tb τ O1 xs O2 Kp) (hk : Kp O2) (h : joinX x xs = some z) : Ev (tM1 (rJoinX K) ta tb) τ O z O2 := fun σ G0 G H s w Q q =>
  ha σ G0 G H s w _ fun v G2 H2 e2 w2 r2 => by
    obtain ⟨rfl, k2⟩ := rp_tx r2
    refine ⟨⟨_, rfl⟩, hb σ G0 G2 H2 (s.mono e2) w2 _ fun p G3 H3 e3 w3 st hl => ?_⟩
    obtain ⟨vs, h1, h2⟩ := st.now w3 hk
    obtain ⟨ev, ok⟩ := rpl_tx h2
    subst ev
    unfold joinX at h
    split at h
    · next hz =>
      cases h
      have hz : (xs.map (·.cs.length)).sum + xs.length * x.cs.length ≤ 1000000 := hz
      have el : ((xs.map stx).map (·.length)) = xs.map (·.cs.length) := by
        rw [List.map_map]
        exact List.map_congr_left fun y _ => stx_len y
      have jl : (joinN x.cs (xs.map (·.cs))).length ≤ 1000000 := by
        have := joinN_len x.cs (xs.map (·.cs))
        rw [List.map_map, List.length_map] at this
        exact Nat.le_trans this hz
      refine ⟨stx x, p, xs.map stx, rfl, rfl, .inl (.inl (.inl h1)), ?_, q _ G3 H3 (e2.trans e3) w3 ⟨?_, fun c hc => ?_, jl⟩⟩
      · rw [el, List.length_map, stx_len]
        omega
      · congr 1
        rw [TL.join_eq]
        refine TL.ext_tl ?_
        rw [TL.tl_join, List.map_map, joinL_eq]
        rfl
      · rcases joinN_mem hc with m | ⟨u, hu, m⟩
        · exact k2.1 c m
        · obtain ⟨y, hy, ey⟩ := List.mem_map.mp hu
          rw [← ey] at m
          exact (ok y hy).1 c m
    · cases h
theorem spl_one (c : Nat) : ∀ (l acc : List Nat), TL.spl [c] 0 acc l = splN c acc l
  | [], acc => by rw [TL.spl_nil]; rfl
  | d :: r, acc => by
    unfold splN
    by_cases e : d = c
    · rw [if_pos e, TL.spl_hit (by unfold TL.pre; simp [e])]
      show acc :: TL.spl [c] 0 [] r = _
      rw [spl_one c r []]
    · rw [if_neg e, TL.spl_miss (by unfold TL.pre; simp [e]), spl_one c r (acc ++ [d])]
theorem rpl_of_tx {H : Hp} : ∀ {xs : List Tx}, (∀ x ∈ xs, OkX x) → RpL H ((xs.map stx).map V.str) xs
  | [], _ => trivial
  | x :: xs, h => ⟨⟨rfl, h x (List.mem_cons_self ..)⟩, rpl_of_tx fun y hy => h y (List.mem_cons_of_mem _ hy)⟩
theorem en_splitX {xs : List Tx} (ha : Ev ta τ O x O1) (hb : Ev tb τ O1 y O2) (h : splitX x y = some xs) : EvN (tM1 rSplitX ta tb) τ O xs O2 := fun σ G0 G H s w Q q =>
  ha σ G0 G H s w _ fun v G2 H2 e2 w2 r2 => by
    obtain ⟨rfl, k2⟩ := rp_tx r2
    refine ⟨⟨_, rfl⟩, hb σ G0 G2 H2 (s.mono e2) w2 _ fun u G3 H3 e3 w3 r3 => ?_⟩
    obtain ⟨rfl, k3⟩ := rp_tx r3
    unfold splitX at h
    split at h
    · next c ec =>
      split at h
      · next hl =>
        cases h
        have hl : x.cs.length + 2 ≤ 1000000 := hl
        have cc : c < 128 := k3.1 c (by rw [ec]; exact List.mem_singleton.mpr rfl)
        have es : Txt.split (stx x) (stx y) = ((splN c [] x.cs).map Tx.mk).map stx := by
          refine TL.map_tl_inj ?_
          rw [TL.split_spl (stx x) (stx y) (by rw [tl_stx, ec]; simp) (TL.kind_ok (by
            show y.cs.toArray.all _ = true
            rw [ec]
            simp
            omega)), tl_stx, tl_stx, ec, spl_one, List.map_map, List.map_map]
          exact (List.map_id' _).symm
        refine ⟨stx x, stx y, rfl, rfl, by rw [stx_len, ec]; rfl, by rw [stx_len]; exact sz_small hl, fun l hl' => ?_⟩
        rw [es]
        refine q l G3 _ (e2.trans e3) (w3.alloc (c := cL1 ((splN c [] x.cs).map Tx.mk)) hl' ⟨_, rfl, rpl_of_tx fun z hz => ?_, ?_⟩)
        · obtain ⟨u, hu, ez⟩ := List.mem_map.mp hz
          subst ez
          refine ⟨fun d hd => ?_, ?_⟩
          · rcases splN_mem hu hd with m | m
            · simp at m
            · exact k2.1 d m
          · have := splN_len hu
            have := k2.2
            show u.length ≤ _
            simp at *
            omega
        · rw [List.length_map]
          have := splN_many c x.cs []
          omega
      · cases h
    · cases h
theorem numN_tl (n : Nat) : TL.tl (Str.ofString (toString ((n : Nat) : Int))) = numN n := TL.tl_num n
theorem neg_tl (m : Nat) : TL.tl (Str.ofString (toString (Int.negSucc m))) = 45 :: numN (m + 1) := by
  have e : toString (Int.negSucc m) = "-" ++ toString (((m + 1 : Nat)) : Int) := rfl
  rw [e, TL.tl_ofString, String.toList_append, List.map_append, ← TL.tl_ofString (toString (((m + 1 : Nat)) : Int)), numN_tl]
  rfl
theorem str_tl (n : Int) : Str.ofString (toString n) = stx (strX n) := by
  refine TL.ext_tl ?_
  rw [tl_stx]
  unfold strX
  cases n with
  | ofNat m =>
    show TL.tl (Str.ofString (toString ((m : Nat) : Int))) = _
    rw [numN_tl]
    rw [if_neg (Int.not_lt.mpr (Int.natCast_nonneg m) : ¬ (Int.ofNat m < 0))]
    rfl
  | negSucc m =>
    rw [neg_tl]
    rw [if_pos (show Int.negSucc m < 0 by omega)]
    rfl
theorem strX_ok {n : Int} (h : n.natAbs < 10 ^ 400) : OkX (strX n) := by
  have d := TL.numL_digits n.natAbs
  have l : (numN n.natAbs).length ≤ 400 := TL.numL_len (by decide) h
  have d : ∀ c ∈ numN n.natAbs, 48 ≤ c ∧ c ≤ 57 := d
  unfold strX
  split
  · refine ⟨fun c hc => ?_, by show (_ :: _).length ≤ _; rw [List.length_cons]; omega⟩
    rcases List.mem_cons.mp hc with e | e
    · rw [e]; decide
    · have := d c e; omega
  · exact ⟨fun c hc => by have := d c hc; omega, by show (numN _).length ≤ _; omega⟩
def rStrX : List V → Hp → VK → Prop := fun xs H Q => ∃ i : Int, xs = [.int i] ∧ i.natAbs.log2 < 1920 ∧ Q (.str (toString i)) H
theorem kc_strX {X : Cx} : CallR X (.type "str") rStrX := call_str_int
theorem ev_strX (ha : Ev ta τ O a O1) (h : strO a = some z) : Ev (tCB rStrX (tCons ta tNil)) τ O z O1 := fun σ G0 G H s w Q q =>
  ha σ G0 G H s w _ fun v G2 H2 e2 w2 r2 => by
    cases r2
    unfold strO at h
    split at h
    · next hz =>
      cases h
      refine ⟨a, rfl, ?_, q _ G2 H2 e2 w2 ⟨congrArg V.str (str_tl a), strX_ok hz⟩⟩
      by_cases z : a.natAbs = 0
      · rw [z]; decide
      · refine (Nat.log2_lt z).mpr (Nat.lt_trans hz ?_)
        decide +kernel
    · cases h
def rIntX : List V → Hp → VK → Prop := fun xs H Q => ∃ (a : Str) (n : Int), xs = [.str a] ∧ PySem.intText? a = some n ∧ a.length ≤ 640 ∧ Q (.int n) H
theorem kc_intX {X : Cx} : CallR X (.type "int") rIntX := call_int_str
theorem digs_ok {l : List Nat} (h : digs l = true) : NumText.AllDigits l := fun c hc => of_decide_eq_true (List.all_eq_true.mp h c hc)
theorem intX_ok (h : intX x = some a) : PySem.intText? (stx x) = some a ∧ x.cs.length ≤ 640 := by
  unfold intX at h
  split at h
  · cases h
  · next hl =>
    refine ⟨?_, by omega⟩
    split at h
    · cases h
    · next c ds e =>
      split at h
      · next h45 =>
        split at h
        · next hd =>
          cases h
          exact PySem.intText_neg (x := stx x) (cs := ds) (by show x.cs = _; rw [e, h45]) (digs_ok hd.2) hd.1 (by rw [stx_len]; omega)
        · cases h
      · split at h
        · next hd =>
          cases h
          have := PySem.intText_digits (x := stx x) (by show NumText.AllDigits x.cs; rw [e]; exact digs_ok hd) (by show x.cs ≠ []; rw [e]; simp) (by rw [stx_len]; omega)
          rw [this]
          show some ((NumText.digitsVal x.cs : Nat) : Int) = _
          rw [e]
          rfl
        · cases h
theorem ev_intX (ha : Ev ta τ O x O1) (h : intX x = some a) : Ev (tCB rIntX (tCons ta tNil)) τ O a O1 := fun σ G0 G H s w Q q =>
  ha σ G0 G H s w _ fun v G2 H2 e2 w2 r2 => by
    obtain ⟨rfl, k2⟩ := rp_tx r2
    obtain ⟨h1, h2⟩ := intX_ok h
    exact ⟨stx x, a, rfl, h1, by rw [stx_len]; exact h2, q _ G2 H2 e2 w2 rfl⟩
end
/-- what is not reached -/
theorem ps_dead {X : Cx} {st : Stmt} : PS X st (fun _ _ _ => False) := ⟨fun _ _ _ _ _ _ h => h.elim⟩
end DL
end
section
namespace DL
open PySem PySem.Spec PyProof.Rows L2
open Rp (rp)
section
variable {α β γ : Type} [Rp α] [Rp β] [Rp γ] {τ : Env} {O : Own} {G0 : Hp}
theorem set_id {σ : L2.St} {i : Nat} {v : V} (hv : σ[i]? = some (some v)) : σ.set i (some v) = σ := by
  apply List.ext_getElem?
  intro j
  by_cases ej : i = j
  · subst ej
    rw [List.getElem?_set_self (List.getElem?_eq_some_iff.mp hv).1, hv]
  · rw [List.getElem?_set_ne ej]
/-- an own nest within a tuple is frozen -/
theorem nx_freezeT3N {N : L2.St → Hp → Prop} {i k : Nat} {l : Addr} {a : α} {b : β} {xs : List (List γ)} (hi : τ[i]? = some (some (dyT3 (dy a) (dy b) (dyA l)))) (hk : O[k]? = some (l, cN xs)) (h : Nx G0 N (τ.set i (some (dy (T3.mk a b xs)))) (O.eraseIdx k)) : Nx G0 N τ O := fun σ G H s w => by
  obtain ⟨G2, e, w2, r⟩ := (w.front hk).freezeN
  obtain ⟨v, hv, t, v1, v2, v3, rfl, g, h1, h2, h3⟩ := s.get hi
  have h3 : v3 = .ref l := h3
  subst h3
  have s2 := (s.mono e).set (v := .ref t) (d := dy (T3.mk a b xs)) ⟨t, v1, v2, _, rfl, e _ _ g, Rp.mono e h1, Rp.mono e h2, r⟩ i
  rw [set_id hv] at s2
  exact h σ G2 H s2 w2
theorem nx_freezeT3L {N : L2.St → Hp → Prop} {i k : Nat} {l : Addr} {a : α} {b : β} {xs : List γ} (hi : τ[i]? = some (some (dyT3 (dy a) (dy b) (dyA l)))) (hk : O[k]? = some (l, cL xs)) (h : Nx G0 N (τ.set i (some (dy (T3.mk a b xs)))) (O.eraseIdx k)) : Nx G0 N τ O := fun σ G H s w => by
  obtain ⟨G2, e, w2, r⟩ := (w.front hk).freezeL
  obtain ⟨v, hv, t, v1, v2, v3, rfl, g, h1, h2, h3⟩ := s.get hi
  have h3 : v3 = .ref l := h3
  subst h3
  have s2 := (s.mono e).set (v := .ref t) (d := dy (T3.mk a b xs)) ⟨t, v1, v2, _, rfl, e _ _ g, Rp.mono e h1, Rp.mono e h2, r⟩ i
  rw [set_id hv] at s2
  exact h σ G2 H s2 w2
end
end DL
end
section
namespace DL
theorem aftN {σ ρ τ : Type} {w : ρ → τ} {k : σ → Option τ} {s : σ} {r : τ} (h : aft w k (Fl.next s) = some r) : k s = some r := h
end DL
end
section
namespace DL
open PySem PySem.Spec PyProof.Rows L2
open Rp (rp)
/-! ### list(d.values()) -/
def rValsL : V → Hp → VK → Prop := fun x H Q => ∃ (d : Addr) (kvs : List (Key × V)), x = .ref d ∧ H d = some (.dK kvs) ∧ ∀ p, H p = none → Q (.ref p) (upd H p (.lst (kvs.map (·.2))))
def tListVals (te : TE) : TE := fun σ H Q => te σ H fun x H1 => rValsL x H1 Q
theorem kv_vals : ∀ {kvs : List (Key × V)} {vs : List (Key × Value)}, KV kvs vs → Vals (kvs.map (·.2)) (vs.map (·.2))
  | _, _, .nil => .nil
  | _, _, .cons h t => .cons h.2 (kv_vals t)
section
variable {X : Cx} {e : Expr} {te : TE} {p apos cpos pos : Pos}
theorem pe_listVals (hc : X.calm = true) (he : PE X e te) (hg : Gl X "list") (hm : X.mg "list" = none) (hv : bootBuiltins "list" = some (.type "list")) (hbase : attributeBase e "values" X.env (eval e X.env) = eval e X.env := by rfl) (hline : (apos.endLine == cpos.line) = true := by rfl)
    (hs : starEach [.Call (.Attribute e "values" apos) [] [] cpos] X.env = (false, eval (.Call (.Attribute e "values" apos) [] [] cpos) X.env) :: starEach [] X.env := by rfl) :
    PE X (.Call (.Name "list" p) [.Call (.Attribute e "values" apos) [] [] cpos] [] pos) (tListVals te) := by
  refine ⟨fun pins s σ H Q I hq => ?_⟩
  refine wpAny_Call_Name_kw (ld_blt I hg hm hv ?_)
  refine PyProof.Rows.callWith_type1 ?_ hs rfl
  rw [hs]
  show wpAny _ _ (spliced ((false, eval (.Call (.Attribute e "values" apos) [] [] cpos) X.env) :: backTo pos (starEach [] X.env))) _ _ s
  refine Calls.spliced_cons ?_
  refine wpAny_Call_method (T := "dict") (id := "dict.values") hbase rfl hline F.plainAttrs_dict F.slot_dict_values F.type_dict_values (thn (he.run pins s σ H _ I hq) fun u s1 ⟨x, H1, I1, rx, d, kvs, ex, hd, q⟩ => ?_)
  subst ex
  obtain rfl : u = Value.ref d := rx
  obtain ⟨hz, hs0, vs, kv, hdo⟩ := I1.hok d _ hd
  obtain ⟨ep, hat⟩ := hdo.dictAt
  have lk : kvs.length = vs.length := Paired.length kv
  have I2 : Inv X pins σ H1 { s1 with heap := s1.heap.push { cls := .type "dict_values", data := .fields #[.ref d] } } := I1.kept (t' := s1.toks) fun b ob q => Heap.get?_push_of_some _ q
  refine ⟨hdo.typeIs, hdo.mapOf.noDict, ?_⟩
  show wpAny _ _ (callWith cpos (.builtin "dict.values") [.ref d] [] []) _ X.xe s1
  refine method_meetsIn F.slot_dict_values F.entry_dict_values rfl (PySem.evalArgs_none ⟨rfl, hdo.typeIs, F.args_dict_values_1 _, _, meets_dict_values (mixKind X.prog X.w) d hs0, ⟨vs, hdo⟩, ?_⟩)
  refine Calls.spliced_nil ?_
  refine PySem.W.kdl_call (PySem.W.kdl_values (knd := mixKind X.prog X.w) (kvs := vs) (ep := ep) (d := d)) (I1.ok.hd hc) ⟨⟨_, Heap.get?_push_size _ rfl, rfl, rfl⟩, hat.push _⟩ (by omega) fun h' tk acc c hk hS hacc => ?_
  have ea : acc.toList = vs.map (·.2) := by
    apply List.ext_getElem?
    intro i
    by_cases hi : i < acc.toList.length
    · rw [List.getElem?_eq_getElem hi]
      obtain ⟨k, e1⟩ := hacc.2 i (acc.toList[i]) (by rw [← Array.getElem?_toList, List.getElem?_eq_getElem hi])
      rw [List.getElem?_map, e1]
      rfl
    · have h1 : acc.toList.length = vs.length := by rw [Array.length_toList]; exact hacc.1
      rw [List.getElem?_eq_none (by omega), List.getElem?_eq_none (by rw [List.length_map]; omega)]
  refine ⟨.ref _, _, I2.laid (o := .lst (kvs.map (·.2))) (t' := tk) hk (Nat.le_refl _) ⟨by rw [List.length_map]; omega, acc.toList, c, by rw [ea]; exact kv_vals kv, ?_⟩, rfl, q _ (I2.hok.fresh (Nat.le_refl _))⟩
  rw [Array.toArray_toList]
  exact hS
end
section
variable {α : Type} [Rp α] {K : PySem.W.Frag} {τ : Env} {O O1 : Own} {td : TE} {m : Dc α} {Kp : Own → Prop}
theorem RpK.vals {G : Hp} : ∀ {ps : List (Key × V)} {xs : List (T2 Int α)}, RpK G ps xs → RpL G (ps.map (·.2)) (xs.map fun x => x.b)
  | [], [], _ => trivial
  | _ :: _, _ :: _, ⟨h, t⟩ => ⟨h.2, RpK.vals t⟩
  | [], _ :: _, h => h.elim
  | _ :: _, [], h => h.elim
theorem en_vals (ha : EvDr td τ O m O1 Kp) (hk : Kp O1) : EvN (tListVals td) τ O (valsD m) O1 := fun σ G0 G H s w Q q =>
  ha σ G0 G H s w _ fun d G2 H2 e2 w2 st hl => by
    obtain ⟨ps, hd, hr⟩ := st.now w2 hk
    exact ⟨d, ps, rfl, hd, fun l hl' => q l G2 _ e2 (w2.alloc (c := cL1 (valsD m)) hl' ⟨_, rfl, hr.vals, by unfold valsD; rw [List.length_map]; exact hl⟩)⟩
abbrev rSortedDI : List V → Hp → VK → Prop := fun xs H Q => ∃ (a : Addr) (kvs : List (Key × V)) (ks : List Int), xs = [.ref a] ∧ Rd H a (.dK kvs) ∧ kvs.map (·.1) = ks.map Sum.inl ∧ ks.length < 64 ∧
    ∀ (ys : List Int) (p : Addr), ys.Perm ks → ys.Pairwise (· ≤ ·) → H p = none → Q (.ref p) (upd H p (.lst (ys.map V.int)))
theorem RpK.fsts {G : Hp} : ∀ {ps : List (Key × V)} {xs : List (T2 Int α)}, RpK G ps xs → ps.map (·.1) = (xs.map fun x => x.a).map Sum.inl
  | [], [], _ => rfl
  | p :: ps, x :: xs, ⟨h, t⟩ => by rw [List.map_cons, List.map_cons, List.map_cons, RpK.fsts t, h.1]
  | [], _ :: _, h => h.elim
  | _ :: _, [], h => h.elim
theorem en_sortedD {ys : List Int} (ha : EvDr td τ O m O1 Kp) (hk : Kp O1) (h : srtDO m = some ys) : EvN (tCB rSortedDI (tCons td tNil)) τ O ys O1 := fun σ G0 G H s w Q q =>
  ha σ G0 G H s w _ fun d G2 H2 e2 w2 st hl => by
    unfold srtDO at h
    split at h
    case isFalse => cases h
    next hc =>
    cases h
    obtain ⟨ps, hd, hr⟩ := st.now w2 hk
    refine ⟨d, ps, keysD m, rfl, .inl hd, hr.fsts, by unfold keysD; rw [List.length_map]; exact hc, fun ys p hp hw hn => ?_⟩
    have e : ys = isrt (keysD m) := isrt_unique hp hw
    subst e
    exact q p G2 _ e2 (w2.alloc (c := cL1 (isrt (keysD m))) hn ⟨_, rfl, RpL.ofInts, by rw [hp.length_eq]; unfold keysD; rw [List.length_map]; exact hl⟩)
end
theorem kc_sortedDI {X : Cx} (hc : X.calm = true) : CallR X (.builtin "sorted") rSortedDI := call_sortedDI hc
section
variable {τ : Env} {O O1 O2 O3 : Own} {ta tb tc : TE} {d1 d2 : Dyn} {c : Cell} {G0 : Hp} {D : Ends}
theorem nx_retE3 (h1 : EvD ta τ O d1 O1) (h2 : EvD tb τ O1 d2 O2) (h3 : EvC tc τ O2 c O3) (k : ∀ l, RtD G0 D.rt (dyT3 d1 d2 (dyA l)) ((l, c) :: O3)) : Nx G0 (tRet (tTup (tCons ta (tCons tb (tCons tc tNil)))) D) τ O := fun σ G H s w =>
  h1 σ G0 G H s w _ fun v1 G1 H1 e1 w1 r1 => h2 σ G0 G1 H1 (s.mono e1) w1 _ fun v2 G2 H2 e2 w2 r2 => h3 σ G0 G2 H2 ((s.mono e1).mono e2) w2 _ fun l G3 H3 e3 w3 => ⟨by show 3 ≤ sizeLine; decide, fun p hp => by
    obtain ⟨e4, w4⟩ := w3.grow (o := .tup [v1, v2, .ref l]) hp
    exact k l _ _ _ w4 ⟨p, v1, v2, .ref l, rfl, upd_same, d1.mono e4 (d1.mono e3 (d1.mono e2 r1)), d2.mono e4 (d2.mono e3 r2), rfl⟩⟩
end
end DL
end
section
namespace DL
open PySem PySem.Spec PyProof.Rows L2
open Rp (rp)
/-! ### instances of own classes -/
/-- the first place of a name -/
def ixS (f : Str) : List Str → Option Nat
  | [] => none
  | g :: gs => if f = g then some 0 else (ixS f gs).map (· + 1)
theorem lookup_ix {f : Str} : ∀ {fs : List (Str × V)}, fs.lookup f = (ixS f (fs.map (·.1))).bind fun j => (fs.map (·.2))[j]?
  | [] => rfl
  | (g, v) :: fs => by
    have ih := lookup_ix (f := f) (fs := fs)
    show _ = (ixS f (g :: fs.map (·.1))).bind fun j => (v :: fs.map (·.2))[j]?
    unfold ixS
    by_cases e : f = g
    · have hb : (f == g) = true := beq_iff_eq.mpr e
      simp only [List.lookup, hb, if_pos e]
      rfl
    · have hb : (f == g) = false := beq_eq_false_iff_ne.mpr e
      simp only [List.lookup, hb, if_neg e]
      rw [ih]
      cases ixS f (fs.map (·.1)) <;> rfl
theorem putF_old {f : Str} {v : V} : ∀ {fs : List (Str × V)} {j : Nat}, ixS f (fs.map (·.1)) = some j → (putF f v fs).map (·.1) = fs.map (·.1) ∧ (putF f v fs).map (·.2) = (fs.map (·.2)).set j v
  | [], j, h => by cases h
  | (g, x) :: fs, j, h => by
    have h : ixS f (g :: fs.map (·.1)) = some j := h
    unfold ixS at h
    show ((if g = f then (g, v) :: fs else (g, x) :: putF f v fs).map (·.1)) = _ ∧ ((if g = f then (g, v) :: fs else (g, x) :: putF f v fs).map (·.2)) = _
    by_cases e : f = g
    · rw [if_pos e] at h
      cases h
      rw [if_pos e.symm]
      exact ⟨rfl, rfl⟩
    · rw [if_neg e] at h
      rw [if_neg (fun z => e z.symm)]
      cases h2 : ixS f (fs.map (·.1)) with
      | none => rw [h2] at h; cases h
      | some i =>
        rw [h2] at h
        cases h
        obtain ⟨a, b⟩ := putF_old (v := v) h2
        exact ⟨by rw [List.map_cons, List.map_cons, a], by rw [List.map_cons, List.map_cons, b]; rfl⟩
theorem putF_new {f : Str} {v : V} : ∀ {fs : List (Str × V)}, ixS f (fs.map (·.1)) = none → (putF f v fs).map (·.1) = fs.map (·.1) ++ [f] ∧ (putF f v fs).map (·.2) = fs.map (·.2) ++ [v]
  | [], h => ⟨rfl, rfl⟩
  | (g, x) :: fs, h => by
    have h : ixS f (g :: fs.map (·.1)) = none := h
    unfold ixS at h
    show ((if g = f then (g, v) :: fs else (g, x) :: putF f v fs).map (·.1)) = _ ∧ ((if g = f then (g, v) :: fs else (g, x) :: putF f v fs).map (·.2)) = _
    by_cases e : f = g
    · rw [if_pos e] at h
      cases h
    · rw [if_neg e] at h
      rw [if_neg (fun z => e z.symm)]
      cases h2 : ixS f (fs.map (·.1)) with
      | some i => rw [h2] at h; cases h
      | none =>
        obtain ⟨a, b⟩ := putF_new (v := v) h2
        exact ⟨by rw [List.map_cons, List.map_cons, a]; rfl, by rw [List.map_cons, List.map_cons, b]; rfl⟩
/-- the object: its class, its own dict, its fields -/
def cI1 (C dx : Addr) (ns : List Str) (ds : List Dyn) : Cell1 := ⟨fun G o => ∃ vs : List (Str × V), o = HO.ins C dx vs ∧ vs.map (fun x : Str × V => x.1) = ns ∧ Vs G (vs.map (fun x : Str × V => x.2)) ds, fun {G G' o} e ⟨vs, h, n, k⟩ => ⟨vs, h, n, Vs.mono e k⟩, fun ⟨_, h, _⟩ z => by rw [h] at z; cases z⟩
/-- its dict -/
def cW1 : Cell1 := ⟨fun _ o => ∃ b, o = .own b, fun _ h => h, fun ⟨_, h⟩ z => by rw [h] at z; cases z⟩
/-- the object with its parts -/
def nI (C : Addr) (ns : List Str) (F : List Addr → List Dyn) : Nd := ⟨fun G a as o => ∃ dx as', as = dx :: as' ∧ (cI1 C dx ns (F as')).P G o, fun e ⟨dx, as', h, k⟩ => ⟨dx, as', h, (cI1 C dx ns (F as')).mono e k⟩, fun ⟨dx, as', h, k⟩ => (cI1 C dx ns (F as')).nt k⟩
abbrev cO (C : Addr) (ns : List Str) (F : List Addr → List Dyn) (cs : List Cell) : Cell := (nI C ns F).c (cW1.c :: cs)
section
variable {G0 G H : Hp} {O : Own} {a C dx : Addr} {ns : List Str} {F : List Addr → List Dyn} {cs : List Cell}
theorem W.openI (w : W G0 G ((a, cO C ns F cs) :: O) H) : ∃ dx as, as.length = cs.length ∧ W G0 G ((a, (cI1 C dx ns (F as)).c) :: (dx, cW1.c) :: (as.zip cs ++ O)) H := by
  obtain ⟨as, hl, w1⟩ := w.unpack
  match as, hl, w1 with
  | [], hl, _ => simp at hl
  | dx :: as, hl, w1 =>
    refine ⟨dx, as, by simpa using hl, W.conv (c := ((nI C ns F).c1 a (dx :: as)).c) w1 fun h ⟨o, e, dx', as', e2, k⟩ => ?_⟩
    cases e2
    exact ⟨o, e, k⟩
theorem W.packI {as : List Addr} (hl : as.length = cs.length) (w : W G0 G ((a, (cI1 C dx ns (F as)).c) :: (dx, cW1.c) :: (as.zip cs ++ O)) H) : W G0 G ((a, cO C ns F cs) :: O) H :=
  W.pack (as := dx :: as) (by simpa using hl) (W.conv (c := (cI1 C dx ns (F as)).c) (c' := ((nI C ns F).c1 a (dx :: as)).c) w fun h ⟨o, e, k⟩ => ⟨o, e, dx, as, rfl, k⟩)
/-- a new one -/
theorem W.allocI {x : Addr} (w : W G0 G O H) (hx : H x = none) (hd : H dx = none) (ne : dx ≠ x) : W G0 G ((x, cO C [] (fun _ => []) []) :: O) (upd (upd H dx (.own x)) x (.ins C dx [])) := by
  have w1 := w.alloc (c := cW1) (o := .own x) hd ⟨x, rfl⟩
  have hx2 : upd H dx (.own x) x = none := by rw [upd_ne (fun e => ne e.symm)]; exact hx
  have w2 := w1.alloc (c := cI1 C dx [] []) (o := .ins C dx []) hx2 ⟨[], rfl, rfl, trivial⟩
  exact W.packI (as := []) (F := fun _ => []) rfl w2
theorem W.lookI {k : Nat} (w : W G0 G O H) (hk : O[k]? = some (a, cO C ns F cs)) : ∃ dx vs, H a = some (.ins C dx vs) ∧ vs.map (·.1) = ns := by
  obtain ⟨dx, as, hl, w1⟩ := (w.front hk).openI
  obtain ⟨_, o, ho, vs, rfl, hn, _⟩ := w1.own (List.mem_cons_self ..)
  exact ⟨dx, vs, ho, hn⟩
end
section
variable {K : PySem.W.Frag} {τ : Env} {O O1 O2 O' : Own} {ta tb tv te : TE} {tr : TA} {d : Dyn} {ds es : List Dyn} {G0 : Hp} {D : Ends} {C dx a B : Addr} {ns : List Str} {F : List Addr → List Dyn} {cs : List Cell} {N : L2.St → Hp → Prop} {R : VK} {c c' : Cell} {f m : Str}
theorem nx_open (q : ∀ dx as, as.length = cs.length → Nx G0 N τ ((a, (cI1 C dx ns (F as)).c) :: (dx, cW1.c) :: (as.zip cs ++ O))) : Nx G0 N τ ((a, cO C ns F cs) :: O) := fun σ G H s w => by
  obtain ⟨dx, as, hl, w1⟩ := w.openI
  exact q dx as hl σ G H s w1
theorem nx_pack {as : List Addr} (hl : as.length = cs.length) (q : Nx G0 N τ ((a, cO C ns F cs) :: O)) : Nx G0 N τ ((a, (cI1 C dx ns (F as)).c) :: (dx, cW1.c) :: (as.zip cs ++ O)) := fun σ G H s w => q σ G H s (W.packI hl w)
theorem RtD.packI {as : List Addr} (hl : as.length = cs.length) (q : RtD G0 R d ((a, cO C ns F cs) :: O)) : RtD G0 R d ((a, (cI1 C dx ns (F as)).c) :: (dx, cW1.c) :: (as.zip cs ++ O)) := fun v G H w r => q v G H (W.packI hl w) r
theorem RtC.packI {as : List Addr} (hl : as.length = cs.length) (q : RtC G0 R c ((a, cO C ns F cs) :: O)) : RtC G0 R c ((a, (cI1 C dx ns (F as)).c) :: (dx, cW1.c) :: (as.zip cs ++ O)) := fun l G H w => by
  have w1 : W G0 G ((a, (cI1 C dx ns (F as)).c) :: (dx, cW1.c) :: (as.zip cs ++ ((l, c) :: O))) H := by
    refine w.perm ?_
    refine (List.Perm.swap _ _ _).trans (List.Perm.cons _ ?_)
    refine (List.Perm.swap _ _ _).trans (List.Perm.cons _ ?_)
    exact List.perm_middle.symm
  exact q l G H ((W.packI hl w1).perm (List.Perm.swap _ _ _))
/-- o.f -/
theorem ev_fld (k j : Nat) (hi : EvD ta τ O (dyA a) O1) (hk : O1[k]? = some (a, (cI1 C dx ns es).c)) (hc : Cls K C) (hn : NoAttr K C f) (hj : ixS f ns = some j) (hd : es[j]? = some d) : EvD (tFld K ta f) τ O d O1 := fun σ G0 G H s w Q q =>
  hi σ G0 G H s w _ fun v G2 H2 e2 w2 r2 => by
    obtain ⟨_, o, ho, vs, rfl, hns, hv⟩ := w2.get hk
    obtain ⟨u, hu, hp⟩ := hv.get hd
    refine ⟨a, C, dx, vs, u, r2, ho, hc, hn, ?_, q u G2 H2 e2 w2 hp⟩
    rw [lookup_ix, hns, hj]
    exact hu
/-- o.f = e, a field that is not there yet -/
theorem nx_fldN {i : Nat} (k : Nat) (h : EvD tv τ O d O1) (hi : τ[i]? = some (some (dyA a))) (hk : O1[k]? = some (a, (cI1 C dx ns es).c)) (hc : Cls K C) (hn : NoAttr K C f) (hj : ixS f ns = none) (hl : ns.length < 1000) (q : Nx G0 D.nx τ (O1.set k (a, (cI1 C dx (ns ++ [f]) (es ++ [d])).c))) : Nx G0 (sFld K (tVar i) tv f D) τ O := fun σ G H s w =>
  h σ G0 G H s w _ fun v G2 H2 e2 w2 r2 => by
    obtain ⟨u, hu, hd⟩ := s.get hi
    have hd : u = .ref a := hd
    subst hd
    obtain ⟨_, o, ho, vs, rfl, hns, hv⟩ := w2.get hk
    have hvl : vs.length = ns.length := by rw [← hns, List.length_map]
    refine ⟨_, hu, a, C, dx, vs, rfl, ho, hc, hn, by omega, ?_⟩
    obtain ⟨p1, p2⟩ := putF_new (f := f) (v := v) (fs := vs) (by rw [hns]; exact hj)
    refine q σ G2 _ (s.mono e2) (w2.put (c' := cI1 C dx (ns ++ [f]) (es ++ [d])) hk ⟨_, rfl, by rw [p1, hns], ?_⟩)
    rw [p2]
    have gen : ∀ {vs : List V} {es : List Dyn}, Vs G2 vs es → Vs G2 (vs ++ [v]) (es ++ [d]) := by
      intro vs
      induction vs with
      | nil => intro es h; cases es with
        | nil => exact ⟨r2, trivial⟩
        | cons _ _ => exact h.elim
      | cons x vs ih => intro es h; cases es with
        | nil => exact h.elim
        | cons _ _ => exact ⟨h.1, ih h.2⟩
    exact gen hv
/-- o.f = e, a field that is there -/
theorem nx_fldS {i : Nat} (k j : Nat) (h : EvD tv τ O d O1) (hi : τ[i]? = some (some (dyA a))) (hk : O1[k]? = some (a, (cI1 C dx ns es).c)) (hc : Cls K C) (hn : NoAttr K C f) (hj : ixS f ns = some j) (hl : ns.length < 1000) (q : Nx G0 D.nx τ (O1.set k (a, (cI1 C dx ns (es.set j d)).c))) : Nx G0 (sFld K (tVar i) tv f D) τ O := fun σ G H s w =>
  h σ G0 G H s w _ fun v G2 H2 e2 w2 r2 => by
    obtain ⟨u, hu, hd⟩ := s.get hi
    have hd : u = .ref a := hd
    subst hd
    obtain ⟨_, o, ho, vs, rfl, hns, hv⟩ := w2.get hk
    have hvl : vs.length = ns.length := by rw [← hns, List.length_map]
    refine ⟨_, hu, a, C, dx, vs, rfl, ho, hc, hn, by omega, ?_⟩
    obtain ⟨p1, p2⟩ := putF_old (f := f) (v := v) (fs := vs) (by rw [hns]; exact hj)
    refine q σ G2 _ (s.mono e2) (w2.put (c' := cI1 C dx ns (es.set j d)) hk ⟨_, rfl, by rw [p1, hns], ?_⟩)
    rw [p2]
    exact hv.set r2 j
/-- o.f = e, a new thing of one's own -/
theorem nx_fldC {i : Nat} (k : Nat) (h : EvC tv τ O c O1) (hi : τ[i]? = some (some (dyA a))) (hk : O1[k]? = some (a, (cI1 C dx ns es).c)) (hc : Cls K C) (hn : NoAttr K C f) (hj : ixS f ns = none) (hl : ns.length < 1000) (q : ∀ l, Nx G0 D.nx τ ((l, c) :: O1.set k (a, (cI1 C dx (ns ++ [f]) (es ++ [dyA l])).c))) : Nx G0 (sFld K (tVar i) tv f D) τ O := fun σ G H s w =>
  h σ G0 G H s w _ fun l G2 H2 e2 w2 => by
    have hk2 : ((l, c) :: O1)[k + 1]? = some (a, (cI1 C dx ns es).c) := hk
    have h2 : EvD (fun _ H Q => Q (V.ref l) H) τ ((l, c) :: O1) (dyA l) ((l, c) :: O1) := fun σ G0 G H s w Q q => q _ G H (Ex.refl _) w rfl
    exact nx_fldN (D := D) (k := k + 1) h2 hi hk2 hc hn hj hl (q l) σ G2 H2 (s.mono e2) w2
/-- C(..) -/
theorem ec_make {S : Spec} {E : XK} (h : EvA tr τ O ds O1) (hs : ∀ x, S (dyA x :: ds) ((x, cO C [] (fun _ => []) []) :: O1) (.fro (dy ())) ((x, c) :: O2)) : EvC (tMake C (sp S) [] E tr) τ O c O2 := fun σ G0 G H s w Q q =>
  h σ G0 G H s w _ fun vs G2 H2 e2 w2 r2 x dx hx hd ne => by
    rw [List.append_nil]
    have w3 := (w2.start).allocI (C := C) hx hd ne
    exact ⟨G2, dyA x :: ds, _, .fro (dy ()), _, ⟨rfl, r2⟩, w3, hs x, fun v G3 H3 w4 r4 => ⟨r4, q x G3 H3 (e2.trans w4.base) (w2.back w4)⟩⟩
/-- o.m(..) -/
theorem ev_methK {S : Spec} {E : XK} (k0 k : Nat) (ho : EvD ta τ O (dyA B) O1) (hk0 : O1[k0]? = some (B, cO C ns F cs)) (hm : ixS m ns = none) (h : EvA tr τ O1 ds O2) (hk : O2[k]? = some (B, c)) (hs : S (dyA B :: ds) ((B, c) :: O2.eraseIdx k) (.fro d) ((B, c') :: O2.eraseIdx k)) : EvD (tMeth C m (sp S) [] E ta tr) τ O d (O2.set k (B, c')) := fun σ G0 G H s w Q q =>
  ho σ G0 G H s w _ fun v G1 H1 e1 w1 r1 => by
    obtain ⟨dx, fs, hf, hns⟩ := w1.lookI hk0
    refine ⟨B, dx, fs, r1, hf, by rw [lookup_ix, hns, hm]; rfl, ?_⟩
    refine h σ G0 G1 H1 (s.mono e1) w1 _ fun vs G2 H2 e2 w2 r2 => ?_
    rw [List.append_nil]
    have r1 : v = .ref B := r1
    exact ⟨G2, dyA B :: ds, _, .fro d, _, ⟨r1, r2⟩, (w2.perm (perm_front hk).symm).start, hs, fun v G3 H3 w3 r3 => q v G3 H3 ((e1.trans e2).trans w3.base) ((w2.back w3).perm (perm_back (List.getElem?_eq_some_iff.mp hk).1)) r3⟩
theorem ec_methK {S : Spec} {E : XK} {cr : Cell} (k0 k : Nat) (ho : EvD ta τ O (dyA B) O1) (hk0 : O1[k0]? = some (B, cO C ns F cs)) (hm : ixS m ns = none) (h : EvA tr τ O1 ds O2) (hk : O2[k]? = some (B, c)) (hs : S (dyA B :: ds) ((B, c) :: O2.eraseIdx k) (.new cr) ((B, c') :: O2.eraseIdx k)) : EvC (tMeth C m (sp S) [] E ta tr) τ O cr (O2.set k (B, c')) := fun σ G0 G H s w Q q =>
  ho σ G0 G H s w _ fun v G1 H1 e1 w1 r1 => by
    obtain ⟨dx, fs, hf, hns⟩ := w1.lookI hk0
    refine ⟨B, dx, fs, r1, hf, by rw [lookup_ix, hns, hm]; rfl, ?_⟩
    refine h σ G0 G1 H1 (s.mono e1) w1 _ fun vs G2 H2 e2 w2 r2 => ?_
    rw [List.append_nil]
    have r1 : v = .ref B := r1
    exact ⟨G2, dyA B :: ds, _, .new cr, _, ⟨r1, r2⟩, (w2.perm (perm_front hk).symm).start, hs, fun l G3 H3 w3 => q l G3 H3 ((e1.trans e2).trans w3.base) ((w2.back w3).perm ((perm_back (List.getElem?_eq_some_iff.mp hk).1).cons _))⟩
/-- a def's end without a return -/
theorem nx_end (h : RtD G0 R (dy ()) O) : Nx G0 (fun _ H' => R .non H') τ O := fun σ G H s w => h .non G H w rfl
end
/-! ### the rules with the program's part given -/
theorem kfld (K : PySem.W.Frag) {X : Cx} {e : Expr} {f : Str} {pos : Pos} {ta : TE} (h : X.K = K) (he : PE X e ta) (hb : attributeBase e f X.env (eval e X.env) = eval e X.env) : PE X (.Attribute e f pos) (tFld K ta f) := h ▸ pe_fld he hb
/-- a class that stands: its method, its making -/
def MDef (P : Program) (w : World) (K : PySem.W.Frag) (mg : Str → Option Value) (base : Heap) (C : Addr) (m : Str) (j : Nat) (ps : List Str) (S : Spec) : Prop :=
  ∃ f fd, FnOk P w K mg base CX0 j f fd ps (sp S) ∧ Meth K C m f ∧ Binds K fd ps []
def IDef (P : Program) (w : World) (K : PySem.W.Frag) (mg : Str → Option Value) (base : Heap) (C : Addr) (x : Str) (j : Nat) (ps : List Str) (S : Spec) : Prop :=
  ∃ f fd, FnOk P w K mg base CX0 j f fd ps (sp S) ∧ Mk K C f ∧ mg x = some (.ref C) ∧ Binds K fd ps []
end DL
end
section
namespace DL
/-- sorted(d), however many keys -/
def srtgO {α : Type} (m : Dc α) : Option (List Int) := if m.l.length ≤ 1000000 then some (isrt (keysD m)) else none
end DL
end
section
namespace DL
open PySem PySem.Spec PyProof.Rows L2
open Rp (rp)
/-! ### sorted(d), however many keys -/
def rSortedDG : List V → Hp → VK → Prop := fun vs H Q => ∃ (d : Addr) (kv : List (Key × V)) (ns : List Int), vs = [.ref d] ∧ H d = some (.dK kv) ∧ kv.map (·.1) = ns.map Sum.inl ∧ ns.length ≤ 1000000 ∧
  ∀ (zs : List Int) (b : Addr), zs.Perm ns → zs.Pairwise (· ≤ ·) → H b = none → Q (.ref b) (upd H b (.lst (zs.map V.int)))
theorem cr_sortedDG {X : Cx} (calm : X.calm = true) : CallR X (.builtin "sorted") rSortedDG := by
  intro pins s σ H vs us Q I rv hyp
  obtain ⟨d, kv, ns, rfl, hd, hk, hn, fin⟩ := hyp
  obtain ⟨u1, rfl, r1⟩ := vals1 rv
  cases r1
  obtain ⟨z, lo, ps, rel, dd⟩ := dk_rd I.hok (.inl hd)
  obtain ⟨e0, at0⟩ := dd.dictAt
  have keys0 : ps.map (·.1) = ns.map Sum.inl := rel.keys.symm.trans hk
  have len0 : ps.length = ns.length := by
    have := congrArg List.length keys0
    simpa using this
  have few : ps.length ≤ sizeLine := by rw [len0]; exact sz_small hn
  refine Calls.call_function_entry kind_sorted plain_sorted entry_sorted (args_sorted1 _) ?_
  unfold Builtin.«sorted»
  refine wpAny_bind (m := checkCount "sorted" 1 1 _) (wpAny_pure ?_)
  refine wpAny_bind (PySem.W.kdu_collect (A := X.A.in1) (PySem.W.kdl_dict (knd := mixKind X.prog X.w) (kvs := ps) (ep := e0) lo) (I.ok.hd calm) at0 few fun h1 tk1 got old1 got1 => ?_)
  have len1 : got.toList.length = ns.length := by rw [Array.length_toList, got1.1, len0]
  have ints1 : IntsAre got.toList ns := ints_each len1 fun i u eu => by
    obtain ⟨k, x, ex, is⟩ := got1.2 i u (by rw [← Array.getElem?_toList]; exact eu)
    have at1 : (ps.map (·.1))[i]? = some k := by rw [List.getElem?_map, ex]; rfl
    rw [keys0, List.getElem?_map] at at1
    obtain ⟨n, en, ek⟩ := Option.map_eq_some_iff.mp at1
    subst ek
    rcases keyIs_shape (show keyIs (Sum.inl n) u = true from is) with ⟨i2, t, e5, e6⟩ | ⟨z2, t, e5, e6⟩
    · cases e5
      exact ⟨n, t, en, e6⟩
    · cases e5
  have J : Inv X pins σ H { s with heap := h1, toks := tk1 } := I.kept old1
  refine wpAny_bind (wpAny_newList ?_ (by rw [len1]; exact sz_small hn))
  have lat : (h1.push (seqObj "list" got.toList.toArray 0)).get? h1.objs.size = some (seqObj "list" got.toList.toArray 0) := Heap.get?_push_size _ rfl
  show wpAny _ _ _ _ _ { s with heap := h1.push (seqObj "list" got.toList.toArray 0), toks := tk1 }
  refine wpAny_bind (wpAny_holding (wpAny_call_entry slot_list_sort ⟨_, lat, rfl⟩ entry_list_sort
    (list_sort_treeAny (s := { s with heap := h1.push (seqObj "list" got.toList.toArray 0), toks := tk1 }) lat ints1 (by rw [len1]; exact sz_small hn) fun out zs i2 p2 w2 => ⟨_, rfl, ?_⟩) (args_list_sort _)))
  obtain ⟨c2, at2⟩ := sortedHeap_at (vs := got.toList) (out := out) lat
  have few2 : (zs.map V.int).length ≤ sizeLine := by
    rw [List.length_map, p2.length_eq]
    exact sz_small hn
  refine wpAny_pure ⟨_, rfl, .ref h1.objs.size, upd H h1.objs.size (.lst (zs.map V.int)), J.laid (o := .lst (zs.map V.int)) (t' := tk1) (fun b u eb => ?_) (Nat.le_refl _) ⟨few2, out.toList, c2, vals_of_ints i2, by rw [Array.toArray_toList]; exact at2⟩, rfl, fin zs _ p2 w2 (J.hok.fresh (Nat.le_refl _))⟩
  have lb : b < h1.objs.size := Heap.lt_size eb
  rw [sortedHeap_old (Nat.ne_of_lt lb) (size_push' .. ▸ Nat.lt_succ_of_lt lb)]
  exact Heap.get?_push_of_some _ eb
theorem en_sortedG {α : Type} [Rp α] {τ : Env} {O O1 : Own} {td : TE} {m : Dc α} {Kp : Own → Prop} {ys : List Int} (ha : EvDr td τ O m O1 Kp) (hk : Kp O1) (h : srtgO m = some ys) : EvN (tCB rSortedDG (tCons td tNil)) τ O ys O1 := fun σ G0 G H s w Q q =>
  ha σ G0 G H s w _ fun d G2 H2 e2 w2 st hl => by
    rw [show srtgO m = some (isrt (keysD m)) from if_pos hl] at h
    cases h
    obtain ⟨ps, hd, hr⟩ := st.now w2 hk
    refine ⟨d, ps, keysD m, rfl, hd, hr.fsts, by unfold keysD; rw [List.length_map]; exact hl, fun ys p hp hw hn => ?_⟩
    have e : ys = isrt (keysD m) := isrt_unique hp hw
    subst e
    exact q p G2 _ e2 (w2.alloc (c := cL1 (isrt (keysD m))) hn ⟨_, rfl, RpL.ofInts, by rw [hp.length_eq]; unfold keysD; rw [List.length_map]; exact hl⟩)
end DL
end
section
namespace DL
open PySem PySem.Spec PyProof.Rows L2
open Rp (rp)
open Dt (toD)
theorem toD_some {α : Type} [Rp α] [Dt α] (xs : List α) : toD (xs.map Option.some) = toD xs := by
  show PyData.list ((xs.map Option.some).map toD) = PyData.list (xs.map toD)
  rw [List.map_map]
  rfl
/-- an own list of letters, none of them lost, beside one of letters of which some are lost -/
theorem dd_ownS {α : Type} [Rp α] [Dt α] [Dl α] {xs : List α} {l : Addr} : Dd (dyA l) (toD (xs.map Option.some)) (Dt.dn α + 1) (KO l (cL xs)) := by
  rw [toD_some]
  exact dd_own
section
variable {α β γ : Type} [Rp α] [Rp β] [Rp γ] {τ : Env} {O O1 : Own} {te : TE}
/-- a told tuple of three, its last part a list of one's own, is frozen -/
theorem EvU.frL3 {x : T3 α β (List γ)} (h : EvU te τ O [cL x.c] (fun as => dyT3 (dy x.a) (dy x.b) (dyA (as.getD 0 default))) O1) : Ev te τ O x O1 := fun σ G0 G H s w Q q => h σ G0 G H s w Q fun as v G2 H2 hl e2 w2 r2 => by
  match as, hl with
  | [a], _ =>
    obtain ⟨t, v1, v2, v3, e1, g, h1, h2, h3⟩ := r2
    have h3 : v3 = .ref a := h3
    obtain ⟨G4, e4, w4, r4⟩ := W.freezeL (p := a) (xs := x.c) w2
    exact q v G4 H2 (e2.trans e4) w4 ⟨t, v1, v2, v3, e1, e4 _ _ g, Rp.mono e4 h1, Rp.mono e4 h2, by rw [h3]; exact r4⟩
end
end DL
end
section
namespace DL
/-- a tuple of two or of three: its last part stands in c -/
structure T23 (α β γ : Type) where
  a : α
  b : Option β
  c : γ
  deriving DecidableEq, Repr
def len23 {α β γ : Type} (x : T23 α β γ) : Int := if x.b.isSome = true then 3 else 2
/-- the second of two -/
def two23 {α β γ : Type} (x : T23 α β γ) : Option γ := if x.b.isSome = true then none else some x.c
/-- the third of three -/
def thr23 {α β γ : Type} (x : T23 α β γ) : Option γ := if x.b.isSome = true then some x.c else none
end DL
end
section
namespace DL
open PySem PySem.Spec PyProof.Rows L2
open Rp (rp)
instance {α β γ : Type} [Rp α] [Rp β] [Rp γ] : Rp (T23 α β γ) := ⟨fun G v x => ∃ t, v = .ref t ∧ match x.b with
    | none => ∃ v1 v2, G t = some (.tup [v1, v2]) ∧ rp G v1 x.a ∧ rp G v2 x.c
    | some y => ∃ v1 v2 v3, G t = some (.tup [v1, v2, v3]) ∧ rp G v1 x.a ∧ rp G v2 y ∧ rp G v3 x.c, fun {G G' v x} e ⟨t, h, k⟩ => ⟨t, h, by
  obtain ⟨a, b, c⟩ := x
  cases b with
  | none =>
    obtain ⟨v1, v2, g, h1, h2⟩ := k
    exact ⟨v1, v2, e _ _ g, Rp.mono e h1, Rp.mono e h2⟩
  | some y =>
    obtain ⟨v1, v2, v3, g, h1, h2, h3⟩ := k
    exact ⟨v1, v2, v3, e _ _ g, Rp.mono e h1, Rp.mono e h2, Rp.mono e h3⟩⟩⟩
instance {α β γ : Type} [Rp α] [Rp β] [Rp γ] : NN (T23 α β γ) := ⟨fun ⟨_, h, _⟩ => by cases h; exact fun z => nomatch z⟩
instance {α β γ : Type} [Rp α] [Rp β] [Rp γ] : Ty (T23 α β γ) := ⟨"tuple", fun {K G v x} ⟨t, h, k⟩ => by
  subst h
  obtain ⟨a, b, c⟩ := x
  cases b with
  | none =>
    obtain ⟨v1, v2, g, _⟩ := k
    exact .base (.tup g)
  | some y =>
    obtain ⟨v1, v2, v3, g, _⟩ := k
    exact .base (.tup g)⟩
section
variable {α β γ : Type} [Rp α] [Rp β] [Rp γ] {K : PySem.W.Frag} {τ : Env} {O O1 : Own} {ta : TE} {tr : TA}
theorem ev_t23a {x : α} {z : γ} (h : EvA tr τ O [dy x, dy z] O1) : Ev (tTup tr) τ O (T23.mk x (none : Option β) z) O1 := fun σ G0 G H s w Q q =>
  h σ G0 G H s w _ fun vs G2 H2 e2 w2 r2 => match vs, r2 with
    | [v1, v2], ⟨r1, r3, _⟩ => ⟨by show 2 ≤ sizeLine; decide, fun p hp => by
      obtain ⟨e3, w3⟩ := w2.grow (o := .tup [v1, v2]) hp
      exact q _ _ _ (e2.trans e3) w3 ⟨p, rfl, v1, v2, upd_same, Rp.mono e3 r1, Rp.mono e3 r3⟩⟩
theorem ev_t23b {x : α} {y : β} {z : γ} (h : EvA tr τ O [dy x, dy y, dy z] O1) : Ev (tTup tr) τ O (T23.mk x (some y) z) O1 := fun σ G0 G H s w Q q =>
  h σ G0 G H s w _ fun vs G2 H2 e2 w2 r2 => match vs, r2 with
    | [v1, v2, v3], ⟨r1, r3, r4, _⟩ => ⟨by show 3 ≤ sizeLine; decide, fun p hp => by
      obtain ⟨e3, w3⟩ := w2.grow (o := .tup [v1, v2, v3]) hp
      exact q _ _ _ (e2.trans e3) w3 ⟨p, rfl, v1, v2, v3, upd_same, Rp.mono e3 r1, Rp.mono e3 r3, Rp.mono e3 r4⟩⟩
theorem ev_t230 {x : T23 α β γ} (ha : Ev ta τ O x O1) : Ev (tOp (rIxT K) ta (tC (.int 0))) τ O x.a O1 := ev_t ha fun G v ⟨t, h, k⟩ => by
  obtain ⟨a, b, c⟩ := x
  cases b with
  | none =>
    obtain ⟨v1, v2, g, h1, h2⟩ := k
    exact ⟨t, _, v1, h, g, rfl, h1⟩
  | some y =>
    obtain ⟨v1, v2, v3, g, h1, h2, h3⟩ := k
    exact ⟨t, _, v1, h, g, rfl, h1⟩
theorem ev_t231 {x : T23 α β γ} {y : β} (ha : Ev ta τ O x O1) (hy : x.b = some y) : Ev (tOp (rIxT K) ta (tC (.int 1))) τ O y O1 := ev_t ha fun G v ⟨t, h, k⟩ => by
  obtain ⟨a, b, c⟩ := x
  have hy : b = some y := hy
  subst hy
  obtain ⟨v1, v2, v3, g, h1, h2, h3⟩ := k
  exact ⟨t, _, v2, h, g, rfl, h2⟩
theorem ev_t231L {x : T23 α β γ} {z : γ} (ha : Ev ta τ O x O1) (hz : two23 x = some z) : Ev (tOp (rIxT K) ta (tC (.int 1))) τ O z O1 := ev_t ha fun G v ⟨t, h, k⟩ => by
  obtain ⟨a, b, c⟩ := x
  cases b with
  | none =>
    obtain ⟨v1, v2, g, h1, h2⟩ := k
    cases hz
    exact ⟨t, _, v2, h, g, rfl, h2⟩
  | some y => cases hz
theorem ev_t232 {x : T23 α β γ} {z : γ} (ha : Ev ta τ O x O1) (hz : thr23 x = some z) : Ev (tOp (rIxT K) ta (tC (.int 2))) τ O z O1 := ev_t ha fun G v ⟨t, h, k⟩ => by
  obtain ⟨a, b, c⟩ := x
  cases b with
  | none => cases hz
  | some y =>
    obtain ⟨v1, v2, v3, g, h1, h2, h3⟩ := k
    cases hz
    exact ⟨t, _, v3, h, g, rfl, h3⟩
theorem ev_len23 {x : T23 α β γ} (ha : Ev ta τ O x O1) : Ev (tCB (rLenS K) (tCons ta tNil)) τ O (len23 x) O1 := fun σ G0 G H s w Q q =>
  ha σ G0 G H s w _ fun v G2 H2 e2 w2 ⟨t, h, k⟩ => by
    obtain ⟨a, b, c⟩ := x
    cases b with
    | none =>
      obtain ⟨v1, v2, g, _⟩ := k
      exact ⟨t, [v1, v2], by rw [h], .inr (.inl (.inl (w2.ex _ _ g))), q _ G2 H2 e2 w2 rfl⟩
    | some y =>
      obtain ⟨v1, v2, v3, g, _⟩ := k
      exact ⟨t, [v1, v2, v3], by rw [h], .inr (.inl (.inl (w2.ex _ _ g))), q _ G2 H2 e2 w2 rfl⟩
end
end DL
end
section
namespace DL
/-- a list of two unlike things -/
structure H2 (α β : Type) where
  a : α
  b : β
  deriving DecidableEq, Repr
/-- a list of three unlike things -/
structure H3 (α β γ : Type) where
  a : α
  b : β
  c : γ
  deriving DecidableEq, Repr
end DL
end
section
namespace DL
open PySem PySem.Spec PyProof.Rows L2
open Rp (rp)
open Dt (toD)
instance {α β : Type} [Rp α] [Rp β] : Rp (H2 α β) := ⟨fun G v x => ∃ t v1 v2, v = .ref t ∧ G t = some (.lst [v1, v2]) ∧ rp G v1 x.a ∧ rp G v2 x.b,
  fun e ⟨t, v1, v2, h, g, h1, h2⟩ => ⟨t, v1, v2, h, e _ _ g, Rp.mono e h1, Rp.mono e h2⟩⟩
instance {α β γ : Type} [Rp α] [Rp β] [Rp γ] : Rp (H3 α β γ) := ⟨fun G v x => ∃ t v1 v2 v3, v = .ref t ∧ G t = some (.lst [v1, v2, v3]) ∧ rp G v1 x.a ∧ rp G v2 x.b ∧ rp G v3 x.c,
  fun e ⟨t, v1, v2, v3, h, g, h1, h2, h3⟩ => ⟨t, v1, v2, v3, h, e _ _ g, Rp.mono e h1, Rp.mono e h2, Rp.mono e h3⟩⟩
instance {α β : Type} [Rp α] [Rp β] : NN (H2 α β) := ⟨fun ⟨_, _, _, h, _⟩ => by cases h; exact fun z => nomatch z⟩
instance {α β γ : Type} [Rp α] [Rp β] [Rp γ] : NN (H3 α β γ) := ⟨fun ⟨_, _, _, _, h, _⟩ => by cases h; exact fun z => nomatch z⟩
instance {α β : Type} [Rp α] [Rp β] : Ty (H2 α β) := ⟨"list", fun ⟨t, v1, v2, h, g, h1, h2⟩ => by subst h; exact .base (.lst g)⟩
instance {α β γ : Type} [Rp α] [Rp β] [Rp γ] : Ty (H3 α β γ) := ⟨"list", fun ⟨t, v1, v2, v3, h, g, h1, h2, h3⟩ => by subst h; exact .base (.lst g)⟩
instance {α β : Type} [Rp α] [Rp β] [Dt α] [Dt β] : Dt (H2 α β) := ⟨fun x => .list [toD x.a, toD x.b], max (Dt.dn α) (Dt.dn β) + 1, fun ⟨t, v1, v2, h, g, h1, h2⟩ => by
  subst h
  exact .lst (.inl (.inl g)) (.cons (Dt.dp h1) (.cons (Dt.dp h2) .nil)), fun ⟨t, v1, v2, h, g, h1, h2⟩ => by
  obtain ⟨a1, b1⟩ := Dt.sh h1
  obtain ⟨a2, b2⟩ := Dt.sh h2
  exact ⟨by simp only [PyData.canLay0, PyData.canLayAll0, a1, a2]; rfl, by simp only [PyData.depth, PyData.depthAll]; omega⟩⟩
instance {α β γ : Type} [Rp α] [Rp β] [Rp γ] [Dt α] [Dt β] [Dt γ] : Dt (H3 α β γ) := ⟨fun x => .list [toD x.a, toD x.b, toD x.c], max (Dt.dn α) (max (Dt.dn β) (Dt.dn γ)) + 1, fun ⟨t, v1, v2, v3, h, g, h1, h2, h3⟩ => by
  subst h
  exact .lst (.inl (.inl g)) (.cons (Dt.dp h1) (.cons (Dt.dp h2) (.cons (Dt.dp h3) .nil))), fun ⟨t, v1, v2, v3, h, g, h1, h2, h3⟩ => by
  obtain ⟨a1, b1⟩ := Dt.sh h1
  obtain ⟨a2, b2⟩ := Dt.sh h2
  obtain ⟨a3, b3⟩ := Dt.sh h3
  exact ⟨by simp only [PyData.canLay0, PyData.canLayAll0, a1, a2, a3]; rfl, by simp only [PyData.depth, PyData.depthAll]; omega⟩⟩
instance {α β : Type} [Rp α] [Rp β] [Dt α] [Dt β] : Dz (H2 α β) := ⟨fun x => by show PyData.eqv (.list _) .none = false ∧ PyData.eqv .none (.list _) = false; simp [PyData.eqv]⟩
instance {α β γ : Type} [Rp α] [Rp β] [Rp γ] [Dt α] [Dt β] [Dt γ] : Dz (H3 α β γ) := ⟨fun x => by show PyData.eqv (.list _) .none = false ∧ PyData.eqv .none (.list _) = false; simp [PyData.eqv]⟩
instance {α β : Type} [Rp α] [Rp β] [Dt α] [Dt β] [DecidableEq α] [DecidableEq β] [De α] [De β] : De (H2 α β) := ⟨fun x y => by
  show PyData.eqv (.list _) (.list _) = _
  obtain ⟨a, b⟩ := x
  obtain ⟨c, d⟩ := y
  simp only [PyData.eqv, PyData.eqvAll, De.de, H2.mk.injEq, Bool.and_true]
  by_cases e : a = c <;> by_cases f : b = d <;> simp [e, f]⟩
instance {α β γ : Type} [Rp α] [Rp β] [Rp γ] [Dt α] [Dt β] [Dt γ] [DecidableEq α] [DecidableEq β] [DecidableEq γ] [De α] [De β] [De γ] : De (H3 α β γ) := ⟨fun x y => by
  show PyData.eqv (.list _) (.list _) = _
  obtain ⟨a, b, c⟩ := x
  obtain ⟨d, e, f⟩ := y
  simp only [PyData.eqv, PyData.eqvAll, De.de, H3.mk.injEq, Bool.and_true]
  by_cases h1 : a = d <;> by_cases h2 : b = e <;> by_cases h3 : c = f <;> simp [h1, h2, h3]⟩
instance {α β : Type} [Rp α] [Rp β] [Dt α] [Dt β] [Dl α] [Dl β] : Dl (H2 α β) := ⟨fun ⟨t, v1, v2, h, g, h1, h2⟩ => by
  subst h
  exact .lst g (.cons (Dl.pd h1) (.cons (Dl.pd h2) .nil)) (show 2 ≤ 1000000 by decide), fun x => by
  show PyData.depth (.list [toD x.a, toD x.b]) ≤ (max (Dt.dn α) (Dt.dn β)) + 1
  simp only [PyData.depth, PyData.depthAll]
  have := Dl.dep x.a
  have := Dl.dep x.b
  omega⟩
instance {α β γ : Type} [Rp α] [Rp β] [Rp γ] [Dt α] [Dt β] [Dt γ] [Dl α] [Dl β] [Dl γ] : Dl (H3 α β γ) := ⟨fun ⟨t, v1, v2, v3, h, g, h1, h2, h3⟩ => by
  subst h
  exact .lst g (.cons (Dl.pd h1) (.cons (Dl.pd h2) (.cons (Dl.pd h3) .nil))) (show 3 ≤ 1000000 by decide), fun x => by
  show PyData.depth (.list [toD x.a, toD x.b, toD x.c]) ≤ (max (Dt.dn α) (max (Dt.dn β) (Dt.dn γ))) + 1
  simp only [PyData.depth, PyData.depthAll]
  have := Dl.dep x.a
  have := Dl.dep x.b
  have := Dl.dep x.c
  omega⟩
instance {α β : Type} [Rp α] [Rp β] [Dt α] [Dt β] [DecidableEq α] [DecidableEq β] [Da α] [Da β] : Da (H2 α β) := ⟨fun n x y hd => by
  obtain ⟨a, b⟩ := x
  obtain ⟨c, d⟩ := y
  have hd : PyData.depth (.list [toD c, toD d]) ≤ n := hd
  simp only [PyData.depth, PyData.depthAll] at hd
  show alikeN n (.list [toD a, toD b]) (.list [toD c, toD d]) = _
  cases n with
  | zero => omega
  | succ n =>
    show (true && (alikeN n (toD a) (toD c) && (alikeN n (toD b) (toD d) && true))) = _
    rw [Da.al n a c (by omega), Da.al n b d (by omega)]
    by_cases e : a = c <;> by_cases f : b = d <;> simp [e, f]⟩
instance {α β γ : Type} [Rp α] [Rp β] [Rp γ] [Dt α] [Dt β] [Dt γ] [DecidableEq α] [DecidableEq β] [DecidableEq γ] [Da α] [Da β] [Da γ] : Da (H3 α β γ) := ⟨fun n x y hd => by
  obtain ⟨a, b, c⟩ := x
  obtain ⟨d, e, f⟩ := y
  have hd : PyData.depth (.list [toD d, toD e, toD f]) ≤ n := hd
  simp only [PyData.depth, PyData.depthAll] at hd
  show alikeN n (.list [toD a, toD b, toD c]) (.list [toD d, toD e, toD f]) = _
  cases n with
  | zero => omega
  | succ n =>
    show (true && (alikeN n (toD a) (toD d) && (alikeN n (toD b) (toD e) && (alikeN n (toD c) (toD f) && true)))) = _
    rw [Da.al n a d (by omega), Da.al n b e (by omega), Da.al n c f (by omega)]
    by_cases h1 : a = d <;> by_cases h2 : b = e <;> by_cases h3 : c = f <;> simp [h1, h2, h3]⟩
section
variable {α β γ : Type} [Rp α] [Rp β] [Rp γ] {K : PySem.W.Frag} {τ : Env} {O O1 : Own} {ta : TE} {tr : TA}
theorem ev_lst2 {x : α} {y : β} (h : EvA tr τ O [dy x, dy y] O1) : Ev (tLst tr) τ O (H2.mk x y) O1 := fun σ G0 G H s w Q q =>
  h σ G0 G H s w _ fun vs G2 H2 e2 w2 r2 => match vs, r2 with
    | [v1, v2], ⟨r1, r3, _⟩ => ⟨sz_small (show 2 ≤ 1000000 by decide), fun p hp => by
      obtain ⟨e3, w3⟩ := w2.grow (o := .lst [v1, v2]) hp
      exact q _ _ _ (e2.trans e3) w3 ⟨p, v1, v2, rfl, upd_same, Rp.mono e3 r1, Rp.mono e3 r3⟩⟩
theorem ev_lst3 {x : α} {y : β} {z : γ} (h : EvA tr τ O [dy x, dy y, dy z] O1) : Ev (tLst tr) τ O (H3.mk x y z) O1 := fun σ G0 G H s w Q q =>
  h σ G0 G H s w _ fun vs G2 H2 e2 w2 r2 => match vs, r2 with
    | [v1, v2, v3], ⟨r1, r3, r4, _⟩ => ⟨sz_small (show 3 ≤ 1000000 by decide), fun p hp => by
      obtain ⟨e3, w3⟩ := w2.grow (o := .lst [v1, v2, v3]) hp
      exact q _ _ _ (e2.trans e3) w3 ⟨p, v1, v2, v3, rfl, upd_same, Rp.mono e3 r1, Rp.mono e3 r3, Rp.mono e3 r4⟩⟩
theorem ev_h {x : α} {n : Int} {tup : Type} [Rp tup] {y : tup} (ha : Ev ta τ O y O1) (h : ∀ (G : Hp) (v : V), rp G v y → ∃ t vs u, v = .ref t ∧ G t = some (.lst vs) ∧ atI vs n = some u ∧ rp G u x) : Ev (tOp (rIxL K) ta (tC (.int n))) τ O x O1 := fun σ G0 G H s w Q q =>
  ha σ G0 G H s w _ fun v G2 H2 e2 w2 r2 => by
    obtain ⟨t, vs, u, h1, h2, h3, h4⟩ := h G2 v r2
    exact ⟨t, vs, n, u, h1, rfl, .inl (.inl (w2.ex _ _ h2)), h3, q _ G2 H2 e2 w2 h4⟩
theorem ev_h20 {x : H2 α β} (ha : Ev ta τ O x O1) : Ev (tOp (rIxL K) ta (tC (.int 0))) τ O x.a O1 := ev_h ha fun G v ⟨t, v1, v2, h, g, h1, h2⟩ => ⟨t, _, v1, h, g, rfl, h1⟩
theorem ev_h21 {x : H2 α β} (ha : Ev ta τ O x O1) : Ev (tOp (rIxL K) ta (tC (.int 1))) τ O x.b O1 := ev_h ha fun G v ⟨t, v1, v2, h, g, h1, h2⟩ => ⟨t, _, v2, h, g, rfl, h2⟩
theorem ev_h30 {x : H3 α β γ} (ha : Ev ta τ O x O1) : Ev (tOp (rIxL K) ta (tC (.int 0))) τ O x.a O1 := ev_h ha fun G v ⟨t, v1, v2, v3, h, g, h1, h2, h3⟩ => ⟨t, _, v1, h, g, rfl, h1⟩
theorem ev_h31 {x : H3 α β γ} (ha : Ev ta τ O x O1) : Ev (tOp (rIxL K) ta (tC (.int 1))) τ O x.b O1 := ev_h ha fun G v ⟨t, v1, v2, v3, h, g, h1, h2, h3⟩ => ⟨t, _, v2, h, g, rfl, h2⟩
theorem ev_h32 {x : H3 α β γ} (ha : Ev ta τ O x O1) : Ev (tOp (rIxL K) ta (tC (.int 2))) τ O x.c O1 := ev_h ha fun G v ⟨t, v1, v2, v3, h, g, h1, h2, h3⟩ => ⟨t, _, v3, h, g, rfl, h3⟩
end
end DL
end
section
namespace DL
open PySem PySem.Spec PyProof.Rows L2
open Rp (rp)
/-! ### tuples sliced, tuples gone through -/
section
variable {X : Cx}
theorem kl_tup (K : PySem.W.Frag) (h : X.K = K) : SlR X (rSlT K) := h ▸ sl_tup
end
theorem ki_tup {X : Cx} {tg l : Expr} {tl : TE} (K : PySem.W.Frag) (h : X.K = K) (hl : PE X l tl) : PI X tg l (iTup K tl) := h ▸ pi_tup hl
section
variable {α β γ : Type} [Rp α] [Rp β] [Rp γ] {K : PySem.W.Frag} {τ : Env} {O O1 : Own} {ta : TE}
theorem ev_cut32 {x : T3 α β γ} (ha : Ev ta τ O x O1) : Ev (tSl (rSlT K) ta tNoPart (tPart (tC (.int 2)))) τ O (T2.mk x.a x.b) O1 := fun σ G0 G H s w Q q =>
  ha σ G0 G H s w _ fun v G2 H2 e2 w2 ⟨t, v1, v2, v3, e, g, r1, r2, r3⟩ => ⟨2, rfl, t, [v1, v2, v3], e, .inl (.inl (w2.ex _ _ g)), (show ¬ (HT.sIx 3 0 none = 0 ∧ HT.sIx 3 3 (some 2) = 3) by decide), fun p hp => by
    obtain ⟨e4, w4⟩ := w2.grow (o := .tup [v1, v2]) hp
    exact q _ _ _ (e2.trans e4) w4 ⟨p, v1, v2, rfl, upd_same, Rp.mono e4 r1, Rp.mono e4 r2⟩⟩
theorem wk_tup4 {x : T4 α α α α} (h : Ev ta τ O x O1) : Wk (iTup K ta) τ O [x.a, x.b, x.c, x.d] O1 KT := fun σ G0 G H s w R q =>
  h σ G0 G H s w _ fun v G2 H2 e2 w2 ⟨t, v1, v2, v3, v4, e, g, r1, r2, r3, r4⟩ => by
    subst e
    have hl : RpL G2 [v1, v2, v3, v4] [x.a, x.b, x.c, x.d] := ⟨r1, r2, r3, r4, trivial⟩
    refine ⟨t, rfl, ⟨[v1, v2, v3, v4], .inl (.inl (w2.ex _ _ g))⟩, q _ G2 H2 e2 w2 (fun G0' G3 H3 O3 i e3 w3 k3 => ?_) (by simp)⟩
    have k1 : H3 t = some (.tup [v1, v2, v3, v4]) := w3.ex _ _ (e3 _ _ g)
    have k2 := hl.mono e3
    refine ⟨fun y hy => ?_, fun hi => ⟨[v1, v2, v3, v4], .inl (.inl k1), hi⟩⟩
    obtain ⟨u, hu, hr⟩ := k2.get hy
    refine ⟨⟨_, u, .inl (.inl k1), hu⟩, fun v' H' hy => ?_⟩
    obtain ⟨rfl, hy⟩ := hy
    have e := hy _ (.inl (.inl k1))
    rw [hu] at e
    cases e
    exact ⟨G3, Ex.refl _, w3, hr⟩
end
/-! ### a op1 b op2 c op3 d -/
def tChain3 (r r' r'' : R2) (ta tb tc td : TE) : TE := fun σ H Q => ta σ H fun x H1 => tb σ H1 fun y H2 => r x y H2 fun z H3 => ∃ k, z = .bl k ∧
  (if k = true then tc σ H3 fun w' H4 => r' y w' H4 fun z2 H5 => ∃ k2, z2 = .bl k2 ∧ (if k2 = true then td σ H5 fun v' H6 => r'' w' v' H6 Q else Q (.bl false) H5) else Q (.bl false) H3)
section
variable {X : Cx} {a b c d : Expr} {ta tb tc td : TE} {pos : Pos}
theorem pt_chain3 {op op' op'' : CmpOp} {r r' r'' : R2} (ho : OpR X (compareOp op) r) (ho' : OpR X (compareOp op') r') (ho2 : OpR X (compareOp op'') r'') (ha : PE X a ta) (hb : PE X b tb) (hc : PE X c tc) (hd : PE X d td)
    (hm : lastMarks [op, op', op''] [b, c, d] = false := by with_unfolding_all rfl) : PT X (.Compare a [op, op', op''] [b, c, d] pos) (tTest (tChain3 r r' r'' ta tb tc td)) := by
  refine ⟨fun pins s σ H Q I h => ?_⟩
  refine isTrue_chain (thn (ha.run pins s σ H _ I h) fun v s1 ⟨x, H1, I1, r1, q1⟩ => test_link (thn (hb.run pins s1 σ H1 _ I1 q1) fun u s2 ⟨y, H2, I2, r2, q2⟩ =>
    thn (ho pins s2 σ H2 x y v u _ I2 r1 r2 q2) fun e s3 ⟨z, H3, I3, r3, k, ek, q3⟩ => ?_)) hm
  subst ek
  cases r3
  refine wpAny_truthy_bool ?_
  cases k with
  | false =>
    obtain ⟨k', e', q'⟩ := q3
    cases e'
    exact ite_ff ⟨H3, I3, q'⟩
  | true =>
    refine ite_tt (test_link (thn (hc.run pins s3 σ H3 _ I3 q3) fun w' s4 ⟨z', H4, I4, r4, q4⟩ => thn (ho' pins s4 σ H4 y z' u w' _ I4 r2 r4 q4) fun d' s5 ⟨z2, H5, I5, r5, k2, e2, q5⟩ => ?_))
    subst e2
    cases r5
    refine wpAny_truthy_bool ?_
    cases k2 with
    | false =>
      obtain ⟨k', e', q'⟩ := q5
      cases e'
      exact ite_ff ⟨H5, I5, q'⟩
    | true =>
      refine ite_tt (test_last (thn (hd.run pins s5 σ H5 _ I5 q5) fun g s6 ⟨z3, H6, I6, r6, q6⟩ => thn (ho2 pins s6 σ H6 z' z3 w' g _ I6 r4 r6 q6) fun d2 s7 ⟨z4, H7, I7, r7, k3, e3, q7⟩ => ?_))
      subst e3
      cases r7
      exact wpAny_truthy_bool ⟨H7, I7, q7⟩
end
section
variable {τ : Env} {O O1 O2 : Own} {ta tb tc td : TE} {a b x y : Int}
theorem ev_chain3 {g g2 g3 : Int → Int → Bool} (ha : Ev ta τ O a O1) (hb : Ev tb τ O1 b O2) (hc : Ev tc τ O2 x O2) (hd : Ev td τ O2 y O2) : Ev (tChain3 (rI0 fun i j => .bl (g i j)) (rI0 fun i j => .bl (g2 i j)) (rI0 fun i j => .bl (g3 i j)) ta tb tc td) τ O (g a b && (g2 b x && g3 x y)) O2 := fun σ G0 G H s w Q q =>
  ha σ G0 G H s w _ fun v1 G1 H1 e1 w1 r1 => hb σ G0 G1 H1 (s.mono e1) w1 _ fun v2 G2 H2 e2 w2 r2 => by
    have r1 : v1 = .int a := r1
    have r2 : v2 = .int b := r2
    subst r1 r2
    refine ⟨a, b, rfl, rfl, g a b, rfl, ?_⟩
    cases h : g a b with
    | false =>
      rw [if_neg (by simp)]
      exact q _ G2 H2 (e1.trans e2) w2 (by rw [h]; rfl)
    | true =>
      rw [if_pos rfl]
      refine hc σ G0 G2 H2 ((s.mono e1).mono e2) w2 _ fun v3 G3 H3 e3 w3 r3 => ?_
      have r3 : v3 = .int x := r3
      subst r3
      refine ⟨b, x, rfl, rfl, g2 b x, rfl, ?_⟩
      cases h2 : g2 b x with
      | false =>
        rw [if_neg (by simp)]
        exact q _ G3 H3 ((e1.trans e2).trans e3) w3 (by rw [h, h2]; rfl)
      | true =>
        rw [if_pos rfl]
        refine hd σ G0 G3 H3 (((s.mono e1).mono e2).mono e3) w3 _ fun v4 G4 H4 e4 w4 r4 => ?_
        have r4 : v4 = .int y := r4
        subst r4
        exact ⟨x, y, rfl, rfl, q _ G4 H4 (((e1.trans e2).trans e3).trans e4) w4 (by rw [h, h2]; rfl)⟩
end
instance {α β γ δ : Type} [Rp α] [Rp β] [Rp γ] [Rp δ] : Ty (T4 α β γ δ) := ⟨"tuple", fun ⟨t, v1, v2, v3, v4, h, g, h1, h2, h3, h4⟩ => by subst h; exact .base (.tup g)⟩
theorem ev_lenT4 {α β γ δ : Type} [Rp α] [Rp β] [Rp γ] [Rp δ] {K : PySem.W.Frag} {τ : Env} {O O1 : Own} {ta : TE} {x : T4 α β γ δ} (ha : Ev ta τ O x O1) : Ev (tCB (rLenS K) (tCons ta tNil)) τ O (4 : Int) O1 := fun σ G0 G H s w Q q =>
  ha σ G0 G H s w _ fun v G2 H2 e2 w2 ⟨t, v1, v2, v3, v4, h, g, _, _, _, _⟩ => ⟨t, [v1, v2, v3, v4], by rw [h], .inr (.inl (.inl (w2.ex _ _ g))), q _ G2 H2 e2 w2 rfl⟩
end DL
end
section
namespace DL
open PySem PySem.Spec PyProof.Rows L2
open Rp (rp)
/-! ### more words: letters or None in a list, tuples put together, two places of a list exchanged -/
def optV : Option Int → V
  | none => .non
  | some x => .int x
theorem rp_opt {G : Hp} {v : V} {o : Option Int} (h : rp G v o) : v = optV o := by
  cases o <;> exact h
theorem RpL.opts {G : Hp} : ∀ {vs : List V} {xs : List (Option Int)}, RpL G vs xs → vs = xs.map optV
  | [], [], _ => rfl
  | _ :: _, _ :: _, ⟨h, t⟩ => by
    rw [List.map_cons, ← RpL.opts t, rp_opt h]
  | [], _ :: _, h => h.elim
  | _ :: _, [], h => h.elim
theorem flat_opt : ∀ ns : List (Option Int), (ns.map optV).all flatV = true
  | [] => rfl
  | n :: ns => by
    rw [List.map_cons, List.all_cons, flat_opt ns]
    cases n <;> rfl
theorem inV_opt : ∀ (ns : List (Option Int)) (n : Option Int), inV (optV n) (ns.map optV) = decide (n ∈ ns)
  | [], n => rfl
  | m :: ns, n => by
    have ih := inV_opt ns n
    unfold inV at ih ⊢
    rw [List.map_cons, List.any_cons, ih]
    have e : eqV (optV m) (optV n) = decide (n = m) := by
      cases m <;> cases n
      · rfl
      · rfl
      · rfl
      · next a b =>
        show (a == b) = decide (some b = some a)
        by_cases z : a = b
        · subst z
          simp
        · have z2 : ¬ b = a := fun k => z k.symm
          simp [z, z2]
    rw [e]
    by_cases z : n = m
    · subst z
      simp
    · simp [z]
section
variable {α β γ : Type} [Rp α] [Rp β] [Rp γ] {K : PySem.W.Frag} {τ : Env} {O O1 O2 O3 : Own} {ta tb tc te : TE} {G0 : Hp} {D : Ends} {xs : List (Option Int)} {a : Option Int} {Kp : Own → Prop}
theorem ev_inO (ha : Ev ta τ O a O1) (hb : EvLs tb τ O1 xs O2 Kp) (hk : Kp O2) : Ev (tOp (rIn K false) ta tb) τ O (decide (a ∈ xs)) O2 := fun σ G0 G H s w Q q =>
  ha σ G0 G H s w _ fun v G2 H2 e2 w2 r2 => hb σ G0 G2 H2 (s.mono e2) w2 _ fun p G3 H3 e3 w3 st hl => by
    obtain ⟨vs, h1, h2⟩ := st.now w3 hk
    have e := h2.opts
    subst e
    have e := rp_opt r2
    subst e
    refine ⟨p, _, rfl, .inl (.inl (.inl h1)), by cases a <;> rfl, flat_opt xs, ?_⟩
    rw [inV_opt]
    exact q _ G3 H3 (e2.trans e3) w3 rfl
theorem ev_notInO (ha : Ev ta τ O a O1) (hb : EvLs tb τ O1 xs O2 Kp) (hk : Kp O2) : Ev (tOp (rIn K true) ta tb) τ O (!decide (a ∈ xs)) O2 := fun σ G0 G H s w Q q =>
  ha σ G0 G H s w _ fun v G2 H2 e2 w2 r2 => hb σ G0 G2 H2 (s.mono e2) w2 _ fun p G3 H3 e3 w3 st hl => by
    obtain ⟨vs, h1, h2⟩ := st.now w3 hk
    have e := h2.opts
    subst e
    have e := rp_opt r2
    subst e
    refine ⟨p, _, rfl, .inl (.inl (.inl h1)), by cases a <;> rfl, flat_opt xs, ?_⟩
    rw [inV_opt]
    exact q _ G3 H3 (e2.trans e3) w3 rfl
/-- a name that a loop has given a value -/
theorem ev_varO {x : α} {o : Option α} {i : Nat} (hx : o = some x) (hi : τ[i]? = some (Option.map dy o)) : Ev (tVar i) τ O x O := by
  subst hx
  exact ev_var hi
theorem ko_catT {X : Cx} (K : PySem.W.Frag) (h : X.K = K) : OpR X (binaryOp .Add) (rCatT K) := h ▸ op_catT
theorem ev_cat11 {x : T1 α} {y : T1 β} (ha : Ev ta τ O x O1) (hb : Ev tb τ O1 y O2) : Ev (tOp (rCatT K) ta tb) τ O (T2.mk x.a y.a) O2 := fun σ G0 G H s w Q q =>
  ha σ G0 G H s w _ fun v G2 H2 e2 w2 ⟨t, v1, h1, g1, r1⟩ => hb σ G0 G2 H2 (s.mono e2) w2 _ fun u G3 H3 e3 w3 ⟨t2, v2, h2, g2, r2⟩ =>
    ⟨t, t2, [v1], [v2], h1, h2, .inl (.inl (w3.ex _ _ (e3 _ _ g1))), .inl (.inl (w3.ex _ _ g2)), by simp, by show 2 ≤ sizeLine; decide, fun z => by simp at z, fun _ p hp => by
      obtain ⟨e4, w4⟩ := w3.grow (o := .tup [v1, v2]) hp
      exact q _ _ _ ((e2.trans e3).trans e4) w4 ⟨p, v1, v2, rfl, upd_same, Rp.mono (e3.trans e4) r1, Rp.mono e4 r2⟩⟩
theorem ev_cut21 {x : T2 α β} (ha : Ev ta τ O x O1) : Ev (tSl (rSlT K) ta tNoPart (tPart (tC (.int 1)))) τ O (T1.mk x.a) O1 := fun σ G0 G H s w Q q =>
  ha σ G0 G H s w _ fun v G2 H2 e2 w2 ⟨t, v1, v2, e, g, r1, r2⟩ => ⟨1, rfl, t, [v1, v2], e, .inl (.inl (w2.ex _ _ g)), (show ¬ (HT.sIx 2 0 none = 0 ∧ HT.sIx 2 2 (some 1) = 2) by decide), fun p hp => by
    obtain ⟨e4, w4⟩ := w2.grow (o := .tup [v1]) hp
    exact q _ _ _ (e2.trans e4) w4 ⟨p, v1, rfl, upd_same, Rp.mono e4 r1⟩⟩
theorem en_listT3 {x : T3 α α α} (ha : Ev ta τ O x O1) : EvN (tCB (rListS K) (tCons ta tNil)) τ O [x.a, x.b, x.c] O1 := fun σ G0 G H s w Q q =>
  ha σ G0 G H s w _ fun v G2 H2 e2 w2 ⟨t, v1, v2, v3, e, g, r1, r2, r3⟩ =>
    ⟨t, [v1, v2, v3], by rw [e], .inr (.inl (.inl (w2.ex _ _ g))), fun l hl => q l G2 _ e2 (w2.alloc (c := cL1 [x.a, x.b, x.c]) hl ⟨_, rfl, ⟨r1, r2, r3, trivial⟩, by show 3 ≤ 1000000; decide⟩)⟩
/-- xs[n], xs[m] = x, y -/
theorem nx_swap {i k : Nat} {l : Addr} {xs ys zs : List α} {x y : α} {n m : Int} (h : Ev te τ O (T2.mk x y) O1) (hi : τ[i]? = some (some (dyA l))) (hb : Ev tb τ O1 n O2) (hk : O2[k]? = some (l, cL xs)) (hz : setO xs n x = some ys) (hc : Ev tc τ (O2.set k (l, cL ys)) m O3) (hk3 : O3[k]? = some (l, cL ys)) (hw : setO ys m y = some zs) (q : Nx G0 D.nx τ (O3.set k (l, cL zs))) :
    Nx G0 (tAsg te (gTup K 2 (gCons (gSub (tVar i) tb rSetL) (gCons (gSub (tVar i) tc rSetL) gNil))) D) τ O := fun σ G H s w => by
  obtain ⟨j, hj, rfl⟩ := setO_ok hz
  obtain ⟨j2, hj2, rfl⟩ := setO_ok hw
  refine h σ G0 G H s w _ fun v G2 H2 e2 w2 ⟨t, v1, v2, h0, g, r1, r2⟩ => ?_
  obtain ⟨vl, hv, hd⟩ := s.get hi
  have hd : vl = .ref l := hd
  subst hd
  refine ⟨t, [v1, v2], h0, .inl (.inl (w2.ex _ _ g)), rfl, v1, [v2], rfl, _, hv, hb σ G0 G2 H2 (s.mono e2) w2 _ fun v3 G3 H3 e3 w3 r3 => ?_⟩
  obtain ⟨_, o2, ho2, us, rfl, hr, hl⟩ := w3.get hk
  refine ⟨l, us, n, j, rfl, r3, ho2, by rw [hr.length]; exact hj, v2, [], rfl, _, hv, hc σ G0 G3 _ ((s.mono e2).mono e3) (w3.put (c' := cL1 (xs.set j x)) hk ⟨_, rfl, hr.set (Rp.mono e3 r1) j, by rw [List.length_set]; exact hl⟩) _ fun v4 G4 H4 e4 w4 r4 => ?_⟩
  obtain ⟨_, o4, ho4, us4, rfl, hr4, hl4⟩ := w4.get hk3
  refine ⟨l, us4, m, j2, rfl, r4, ho4, by rw [hr4.length]; exact hj2, rfl, ?_⟩
  exact q σ G4 _ (((s.mono e2).mono e3).mono e4) (w4.put (c' := cL1 ((xs.set j x).set j2 y)) hk3 ⟨_, rfl, hr4.set (Rp.mono (e3.trans e4) r2) j2, by rw [List.length_set]; exact hl4⟩)
end
end DL
end
section
namespace DL
def m_over_1441 (p : Int) (a : Int) (b : Int) : Option Int :=
  ((modO b p).bind fun t1 => ((some (T2.mk (0 : Int) (1 : Int))).bind fun t2 => (loopO FUEL (p, t1, t2.a, t2.b) (fun (u3 : (Int × Int × Int × Int)) => some (decide ((0 : Int) < u3.2.1))) (fun (u3 : (Int × Int × Int × Int)) => ((divO u3.1 u3.2.1).bind fun t4 => ((mulO t4 u3.2.1).bind fun t5 => (some (u3.1 - t5)).bind fun right6 => ((mulO t4 u3.2.2.2).bind fun t7 => (some (u3.2.2.1 - t7)).bind fun plus8 => some (u3.2.1, right6, u3.2.2.2, plus8)))))).bind fun (u9 : (Int × Int × Int × Int)) => ((mulO a u9.2.2.1).bind fun t10 => (modO t10 p).bind fun t11 => some t11)))

def m_Lbag_e242 (script : List Int) : Option Bag :=
  (foldO (cut script none (some (63 : Int))) ((19 : Int)) (fun x2 (u1 : (Int)) => ((mulO u1 (48271 : Int)).bind fun t4 => (modO x2 (2147483629 : Int)).bind fun t5 => (modO ((t4 + t5) + (1 : Int)) (2147483647 : Int)).bind fun t6 => some (t6)))).bind fun (u7 : (Int)) => ((mapO (cut script none (some (63 : Int))) (fun x8 => ((powO (10 : Int) (60 : Int)).bind fun t10 => (modO (absI x8) t10).bind fun t11 => some t11))).bind fun y12 => some (Bag.mk y12 (0 : Int) (0 : Int) u7 (0 : Int)))

def m_Lstirred_db2d (bag : Bag) (many : Int) : Option (Int × Bag) :=
  ((divO (bitsI many) (27 : Int)).bind fun t1 => (rngO 0 ((1 : Int) + t1)).bind fun t2 => (foldO t2 ((0 : Int), bag) (fun x4 (u3 : (Int × Bag)) => ((some { u3.2 with c := (u3.2.c + (1 : Int)) }).bind fun bag6 => ((powO bag6.s (3 : Int)).bind fun t7 => (mulO (69621 : Int) bag6.s).bind fun t8 => (mulO (1031 : Int) bag6.c).bind fun t9 => (modO (((t7 + t8) + t9) + (1 : Int)) (2147483647 : Int)).bind fun t10 => (some { bag6 with s := t10 }).bind fun bag11 => ((mulO u3.1 (134217728 : Int)).bind fun t12 => (divO bag11.s (16 : Int)).bind fun t13 => (some (t12 + t13)).bind fun found14 => some (found14, bag11)))))).bind fun (u15 : (Int × Bag)) => ((modO u15.1 many).bind fun t16 => some (t16, u15.2)))

def m_Ldraw_f7ac (bag : Bag) (many : Int) : Option (Int × Bag) :=
  (if ((decide (bag.d = (0 : Int))) && (decide (bag.i < (lenI bag.cells)))) = true then ((ixO bag.cells bag.i).bind fun t1 => (some { bag with d := t1 }).bind fun bag2 => ((some { bag2 with i := (bag2.i + (1 : Int)) }).bind fun bag3 => ((modO bag3.d many).bind fun t4 => ((divO bag3.d many).bind fun t5 => (some { bag3 with d := t5 }).bind fun bag6 => some (t4, bag6))))) else (if (decide (bag.d = (0 : Int))) = true then ((m_Lstirred_db2d bag many).bind fun r7 => some (r7.1, r7.2)) else ((modO bag.d many).bind fun t8 => ((divO bag.d many).bind fun t9 => (some { bag with d := t9 }).bind fun bag10 => some (t8, bag10)))))

def m_Lprime_from_3e28 (number : Int) : Option Int :=
  ((rngO number (number + (60 : Int))).bind fun t1 => afterO (forO t1 () (fun x3 (u2 : (Unit)) => ((rngO (2 : Int) (102 : Int)).bind fun t6 => (filO t6 (fun x7 => ((mulO x7 x7).bind fun t9 => (if (decide (t9 ≤ x3)) = true then ((modO x3 x7).bind fun t10 => some (decide (t10 = (0 : Int)))) else some false).bind fun t11 => (if t11 = true then some (some x7) else some ((none : Option Int)))))).bind fun y12 => (if (decide (y12 = [])) = true then some (Fl.ret x3) else some (Fl.next ()))))) (fun r => r) (fun (u13 : (Unit)) => some (2 : Int)))

def m_Lprime_8895 (bag : Bag) : Option (Int × Bag) :=
  ((some ([(2 : Int), (3 : Int), (5 : Int), (7 : Int), (2 : Int), (11 : Int), (101 : Int), (10007 : Int), (65537 : Int), (1000003 : Int), (998244353 : Int), (1000000007 : Int), (2147483647 : Int), (1000000000039 : Int)] : List Int)).bind fun some1 => ((catO some1 [(1000000000000000003 : Int), (18446744073709551557 : Int), (2305843009213693951 : Int), (618970019642690137449562111 : Int)]).bind fun t2 => ((catO t2 [(162259276829213363391578010288127 : Int), (170141183460469231731687303715884105727 : Int)]).bind fun t3 => ((catO t3 [(1000000000000000000000000000000000000003 : Int), (9999999999999999999999999999999999999983 : Int)]).bind fun t4 => ((m_Ldraw_f7ac bag (26 : Int)).bind fun r5 => ((if (decide (r5.1 < (22 : Int))) = true then ((ixO t4 r5.1).bind fun t6 => some (t6, r5.2)) else ((m_Ldraw_f7ac r5.2 (10000 : Int)).bind fun r7 => (m_Lprime_from_3e28 ((2 : Int) + r7.1)).bind fun t8 => some (t8, r7.2))).bind fun t9 => some (t9.1, t9.2)))))))

def m_Lsome_10a4 (bag : Bag) (p : Int) : Option (Int × Bag) :=
  ((m_Ldraw_f7ac bag (8 : Int)).bind fun r1 => ((powO (10 : Int) (60 : Int)).bind fun t2 => (m_Ldraw_f7ac r1.2 (t2 - (1 : Int))).bind fun r3 => (if ((decide (r1.1 = (0 : Int))) || (decide (r1.1 = (1 : Int)))) = true then ((ixO ([r3.1, ((-(1 : Int)) - r3.1)] : List Int) r1.1).bind fun t4 => some (t4, r3.2)) else (if ((decide (r1.1 = (2 : Int))) || (decide (r1.1 = (3 : Int)))) = true then ((modO r3.1 p).bind fun t5 => (modO r3.1 p).bind fun t6 => (ixO ([t5, ((-(1 : Int)) - t6)] : List Int) (r1.1 - (2 : Int))).bind fun t7 => some (t7, r3.2)) else (if (decide (r1.1 = (4 : Int))) = true then ((powO (10 : Int) (19 : Int)).bind fun t8 => (modO r3.1 t8).bind fun t9 => (mulO p t9).bind fun t10 => (powO (10 : Int) (19 : Int)).bind fun t11 => (divO r3.1 t11).bind fun t12 => (modO t12 (2 : Int)).bind fun t13 => some ((t10 - t13), r3.2)) else (if (decide (r1.1 = (5 : Int))) = true then ((modO r3.1 (5 : Int)).bind fun t14 => some ((t14 - (2 : Int)), r3.2)) else ((ixO ([(p - (1 : Int)), ((1 : Int) - p)] : List Int) (r1.1 - (6 : Int))).bind fun t15 => some (t15, r3.2))))))))

def m_Lwhole_0c9c (found : Int) : Option Bool :=
  some (true && (!false))

end DL
end
section
namespace DL
def m_total_f531 (p : Int) (pairs : List (T2 Int Int)) (word : List (Option Int)) : Option Int :=
  (foldO pairs ((0 : Int)) (fun x2 (u1 : (Int)) => ((ixO word x2.a).bind fun t4 => (if t4.isSome = true then ((t4).bind fun t5 => (mulO x2.b t5).bind fun t6 => (modO (u1 + t6) p).bind fun t7 => some (t7)) else some (u1))))).bind fun (u8 : (Int)) => some u8
def m_Llossy_1c3c (bag : Bag) (word : List Int) : Option ((List (Option Int)) × Bag) :=
  ((m_Ldraw_f7ac bag (4 : Int)).bind fun r1 => (ixO ([(8 : Int), (3 : Int), (2 : Int), (1 : Int)] : List Int) r1.1).bind fun t2 => ((mapS word r1.2 (fun x3 b4 => ((m_Ldraw_f7ac b4 t2).bind fun r5 => (if (decide (r5.1 = (0 : Int))) = true then some (none : Option Int) else some (some x3)).bind fun t6 => some (t6, r5.2)))).bind fun y7 => some (y7.1, y7.2)))
def m_is_check_f382 (p : Int) (n : Int) (pairs : List (T2 Int Int)) : Option Bool :=
  ((some (-(1 : Int))).bind fun last1 => afterO (forO pairs (last1) (fun x3 (u2 : (Int)) => (if ((decide (x3.a ≤ u2)) || ((decide (n ≤ x3.a)) || ((decide (x3.b < (1 : Int))) || (decide (p ≤ x3.b))))) = true then some (Fl.ret false) else some (Fl.next (x3.a))))) (fun r => r) (fun (u6 : (Int)) => some (decide ((0 : Int) ≤ u6))))
def m_formed_20a9 (net : T3 Int Int (List (List (T2 Int Int)))) : Option Bool :=
  (if ((decide (net.a < (2 : Int))) || ((decide (net.b < (1 : Int))) || ((decide ((400 : Int) < net.b)) || (decide ((400 : Int) < (lenI net.c)))))) = true then some false else afterO (forO net.c () (fun x2 (u1 : (Unit)) => ((m_is_check_f382 net.a net.b x2).bind fun t5 => (if (!t5) = true then some (Fl.ret false) else some (Fl.next ()))))) (fun r => r) (fun (u6 : (Unit)) => some true))
def m_Lp_0fed (bag : Bag) : Option (Int × Bag) :=
  ((some ([(2 : Int), (3 : Int), (5 : Int), (7 : Int), (4 : Int), (11 : Int), (101 : Int), (65537 : Int), (2147483647 : Int), (2305843009213693951 : Int)] : List Int)).bind fun some1 => ((catO some1 [(618970019642690137449562111 : Int), (170141183460469231731687303715884105727 : Int)]).bind fun t2 => ((m_Ldraw_f7ac bag (16 : Int)).bind fun r3 => (if (decide (r3.1 < (12 : Int))) = true then ((ixO t2 r3.1).bind fun t4 => some (t4, r3.2)) else ((powO (10 : Int) (20 : Int)).bind fun t5 => (powO (10 : Int) (60 : Int)).bind fun t6 => (powO (10 : Int) (60 : Int)).bind fun t7 => (ixO ([(300 : Int), t5, (t6 - (2 : Int)), (t7 - (2 : Int))] : List Int) (r3.1 - (12 : Int))).bind fun t8 => (m_Ldraw_f7ac r3.2 t8).bind fun r9 => some (((2 : Int) + r9.1), r9.2))))))
def m_Lcopy_9668 (net : T3 Int Int (List (List (T2 Int Int)))) : Option (T3 Int Int (List (List (T2 Int Int)))) :=
  ((mapO net.c (fun x1 => some x1)).bind fun y3 => some (T3.mk net.a net.b y3))
def m_sum_of_a97b (p : Int) (pairs : List (T2 Int Int)) (word : List (Option Int)) : Option (Option Int) :=
  afterO (forO pairs () (fun x2 (u1 : (Unit)) => ((ixO word x2.a).bind fun t5 => (if t5.isNone = true then some (Fl.ret (none : Option Int)) else some (Fl.next ()))))) (fun r => r) (fun (u6 : (Unit)) => ((m_total_f531 p pairs word).bind fun t7 => some (some t7)))
def m_sums_108e (net : T3 Int Int (List (List (T2 Int Int)))) (word : List (Option Int)) : Option (List (Option Int)) :=
  ((mapO net.c (fun x1 => ((m_sum_of_a97b net.a x1 word).bind fun t3 => some t3))).bind fun y4 => some y4)
def m_is_true_dfda (net : T3 Int Int (List (List (T2 Int Int)))) (word : List (Option Int)) : Option Bool :=
  afterO (forO word () (fun x2 (u1 : (Unit)) => (if x2.isNone = true then some (Fl.ret false) else some (Fl.next ())))) (fun r => r) (fun (u5 : (Unit)) => ((m_sums_108e net word).bind fun t6 => afterO (forO t6 () (fun x8 (u7 : (Unit)) => (if (!decide (x8 = (some (0 : Int)))) = true then some (Fl.ret false) else some (Fl.next ())))) (fun r => r) (fun (u11 : (Unit)) => some true)))
def m_Lpart_e5b4 (p : Int) (b : Int) : Option Int :=
  ((modO b p).bind fun t1 => (some (T4.mk t1 p (1 : Int) (0 : Int))).bind fun t2 => (loopO FUEL (t2.a, t2.b, t2.c, t2.d) (fun (u3 : (Int × Int × Int × Int)) => some (!decide (u3.2.1 = (0 : Int)))) (fun (u3 : (Int × Int × Int × Int)) => ((divO u3.1 u3.2.1).bind fun t4 => ((mulO t4 u3.2.1).bind fun t5 => (mulO t4 u3.2.2.2).bind fun t6 => (some (T4.mk u3.2.1 (u3.1 - t5) u3.2.2.2 (u3.2.2.1 - t6))).bind fun t7 => some (t7.a, t7.b, t7.c, t7.d))))).bind fun (u8 : (Int × Int × Int × Int)) => ((if (decide (u8.1 = (1 : Int))) = true then ((modO u8.2.2.1 p).bind fun t9 => some t9) else some (0 : Int)).bind fun t10 => some t10))
def m_Lsum_03c6 (p : Int) (pairs : List (T2 Int Int)) (word : List (Option Int)) : Option Int :=
  ((filO pairs (fun x1 => ((ixO word x1.a).bind fun t3 => (if t3.isSome = true then ((ixO word x1.a).bind fun t4 => (t4).bind fun t5 => (mulO x1.b t5).bind fun t6 => some (some t6)) else some ((none : Option Int)))))).bind fun y7 => (modO y7.sum p).bind fun t8 => some t8)
def m_Lletters_15d5 (bag : Bag) (p : Int) (n : Int) : Option ((List Int) × Bag) :=
  ((m_Ldraw_f7ac bag (3 : Int)).bind fun r1 => (if (decide (r1.1 = (2 : Int))) = true then ((rngO 0 n).bind fun t2 => (mapS t2 r1.2 (fun x3 b4 => ((m_Ldraw_f7ac b4 p).bind fun r5 => (m_Ldraw_f7ac r5.2 (4 : Int)).bind fun r6 => (mulO r5.1 (b2i (decide (r6.1 = (3 : Int))))).bind fun t7 => some (t7, r6.2)))).bind fun y8 => some (y8.1, y8.2)) else ((rngO 0 n).bind fun t9 => (mapS t9 r1.2 (fun x10 b11 => ((ixO ([p, (minI p (3 : Int))] : List Int) r1.1).bind fun t12 => (m_Ldraw_f7ac b11 t12).bind fun r13 => some (r13.1, r13.2)))).bind fun y14 => some (y14.1, y14.2))))
def m_Ltrue_pairs_2520 (bag : Bag) (p : Int) (row : List Int) (word : List Int) : Option ((List (T2 Int Int)) × Bag) :=
  ((mapS row bag (fun x1 b2 => ((m_Ldraw_f7ac b2 (p - (1 : Int))).bind fun r3 => some ((T2.mk x1 ((1 : Int) + r3.1)), r3.2)))).bind fun y4 => ((m_Ldraw_f7ac y4.2 (lenI row)).bind fun r5 => ((rngO 0 (lenI row)).bind fun t6 => afterO (forO t6 () (fun x8 (u7 : (Unit)) => ((modO (r5.1 + x8) (lenI row)).bind fun t11 => ((ixO row t11).bind fun t12 => (ixO word t12).bind fun t13 => (m_Lpart_e5b4 p t13).bind fun t14 => (if (!decide (t14 = (0 : Int))) = true then ((catO (cut y4.1 none (some t11)) (cut y4.1 (some (t11 + (1 : Int))) none)).bind fun t15 => (m_Lsum_03c6 p t15 (word.map some)).bind fun t16 => ((ixO row t11).bind fun t17 => (mulO ((0 : Int) - t16) t14).bind fun t18 => (modO t18 p).bind fun t19 => (some ([(T2.mk t17 t19)] : List (T2 Int Int))).bind fun last20 => ((filO last20 (fun x21 => (if (!decide (t16 = (0 : Int))) = true then some (some x21) else some ((none : Option (T2 Int Int)))))).bind fun y23 => (catO (cut y4.1 none (some t11)) y23).bind fun t24 => (catO t24 (cut y4.1 (some (t11 + (1 : Int))) none)).bind fun t25 => some (Fl.ret (t25, r5.2))))) else some (Fl.next ())))))) (fun r => r) (fun (u26 : (Unit)) => ((m_Lsum_03c6 p y4.1 (word.map some)).bind fun t27 => (if (decide (t27 = (0 : Int))) = true then some y4.1 else some ([] : List (T2 Int Int))).bind fun t28 => some (t28, r5.2))))))
def m_Lplanted_bc71 (bag : Bag) (p : Int) (word : List Int) (many : Int) (wide : Int) : Option ((T3 Int Int (List (List (T2 Int Int)))) × Bag) :=
  ((rngO 0 many).bind fun t2 => (foldO t2 (bag, []) (fun x4 (u3 : (Bag × (List (List (T2 Int Int))))) => ((m_Ldraw_f7ac u3.1 wide).bind fun r6 => (rngO 0 ((1 : Int) + r6.1)).bind fun t7 => (mapS t7 r6.2 (fun x8 b9 => ((m_Ldraw_f7ac b9 (lenI word)).bind fun r10 => some (r10.1, r10.2)))).bind fun y11 => (ssetO y11.1).bind fun t12 => ((m_Ltrue_pairs_2520 y11.2 p t12 word).bind fun r13 => (appO u3.2 r13.1).bind fun checks14 => some (r13.2, checks14))))).bind fun (u15 : (Bag × (List (List (T2 Int Int))))) => ((filO u15.2 (fun x16 => (if (!decide (x16 = [])) = true then some (some x16) else some ((none : Option (List (T2 Int Int))))))).bind fun y18 => some ((T3.mk p (lenI word) y18), u15.1)))
def m_told_by_4c9c (net : T3 Int Int (List (List (T2 Int Int)))) (word : List (Option Int)) (c : Int) : Option (Option (T2 Int Int)) :=
  ((ixO net.c c).bind fun t1 => ((filO t1 (fun x2 => ((ixO word x2.a).bind fun t4 => (if t4.isNone = true then some (some x2) else some ((none : Option (T2 Int Int))))))).bind fun y5 => (if (!decide ((lenI y5) = (1 : Int))) = true then some (none : Option (T2 Int Int)) else ((ixO y5 (0 : Int)).bind fun t6 => ((m_total_f531 net.a t1 word).bind fun t7 => (m_over_1441 net.a ((0 : Int) - t7) t6.b).bind fun t8 => some (some (T2.mk t6.a t8)))))))
def m_Ldraw_b9cb (bag : Bag) (many : Int) : Option (Int × Bag) :=
  (if ((decide (bag.d = (0 : Int))) && (decide (bag.i < (lenI bag.cells)))) = true then ((ixO bag.cells bag.i).bind fun t1 => (some { bag with d := t1 }).bind fun bag2 => ((some { bag2 with i := (bag2.i + (1 : Int)) }).bind fun bag3 => ((modO bag3.d many).bind fun t4 => ((divO bag3.d many).bind fun t5 => (some { bag3 with d := t5 }).bind fun bag6 => some (t4, bag6))))) else (if (decide (bag.d = (0 : Int))) = true then ((some { bag with c := (bag.c + (1 : Int)) }).bind fun bag7 => ((powO bag7.s (3 : Int)).bind fun t8 => (mulO (69621 : Int) bag7.s).bind fun t9 => (mulO (1031 : Int) bag7.c).bind fun t10 => (modO (((t8 + t9) + t10) + (1 : Int)) (2147483647 : Int)).bind fun t11 => (some { bag7 with s := t11 }).bind fun bag12 => ((divO bag12.s (16 : Int)).bind fun t13 => (modO t13 many).bind fun t14 => some (t14, bag12)))) else ((modO bag.d many).bind fun t15 => ((divO bag.d many).bind fun t16 => (some { bag with d := t16 }).bind fun bag17 => some (t15, bag17)))))
def m_Lprime_4683 (bag : Bag) : Option (Int × Bag) :=
  ((some ([(2 : Int), (3 : Int), (5 : Int), (7 : Int), (2 : Int), (11 : Int), (101 : Int), (10007 : Int), (65537 : Int), (1000003 : Int), (998244353 : Int), (1000000007 : Int), (2147483647 : Int), (1000000000039 : Int)] : List Int)).bind fun somev1 => ((powO (10 : Int) (39 : Int)).bind fun t2 => (powO (10 : Int) (40 : Int)).bind fun t3 => (catO somev1 [(t2 + (3 : Int)), (t3 - (17 : Int)), (2305843009213693951 : Int), (618970019642690137449562111 : Int)]).bind fun t4 => ((catO t4 [(162259276829213363391578010288127 : Int), (170141183460469231731687303715884105727 : Int)]).bind fun t5 => ((m_Ldraw_b9cb bag (24 : Int)).bind fun r6 => ((if (decide (r6.1 < (20 : Int))) = true then ((ixO t5 r6.1).bind fun t7 => some (t7, r6.2)) else ((m_Ldraw_b9cb r6.2 (10000 : Int)).bind fun r8 => (m_Lprime_from_3e28 ((2 : Int) + r8.1)).bind fun t9 => some (t9, r8.2))).bind fun t10 => some (t10.1, t10.2))))))
def m_Lletter_be3e (bag : Bag) (p : Int) : Option (Int × Bag) :=
  ((m_Ldraw_b9cb bag p).bind fun r1 => (divO p (3 : Int)).bind fun t2 => (mulO r1.1 (t2 + (1 : Int))).bind fun t3 => (modO t3 p).bind fun t4 => some (t4, r1.2))
def m_Lfactor_5038 (bag : Bag) (p : Int) : Option (Int × Bag) :=
  ((m_Ldraw_b9cb bag (p - (1 : Int))).bind fun r1 => (divO p (3 : Int)).bind fun t2 => (mulO ((1 : Int) + r1.1) (t2 + (1 : Int))).bind fun t3 => (modO t3 p).bind fun t4 => some (t4, r1.2))
def m_Lletters_a01e (bag : Bag) (p : Int) (n : Int) : Option ((List Int) × Bag) :=
  ((m_Ldraw_b9cb bag (3 : Int)).bind fun r1 => (if (decide (r1.1 = (2 : Int))) = true then ((rngO 0 n).bind fun t2 => (mapS t2 r1.2 (fun x3 b4 => ((m_Lletter_be3e b4 p).bind fun r5 => (m_Ldraw_b9cb r5.2 (4 : Int)).bind fun r6 => (mulO r5.1 (b2i (decide (r6.1 = (3 : Int))))).bind fun t7 => some (t7, r6.2)))).bind fun y8 => some (y8.1, y8.2)) else (if (decide (r1.1 = (1 : Int))) = true then ((rngO 0 n).bind fun t9 => (mapS t9 r1.2 (fun x10 b11 => ((m_Ldraw_b9cb b11 (minI p (3 : Int))).bind fun r12 => some (r12.1, r12.2)))).bind fun y13 => some (y13.1, y13.2)) else ((rngO 0 n).bind fun t14 => (mapS t14 r1.2 (fun x15 b16 => ((m_Lletter_be3e b16 p).bind fun r17 => some (r17.1, r17.2)))).bind fun y18 => some (y18.1, y18.2)))))
def m_Lplaces_285e (bag : Bag) (n : Int) (wide : Int) : Option ((List Int) × Bag) :=
  ((if (decide (n ≤ (20 : Int))) = true then ((m_Ldraw_b9cb bag (16 : Int)).bind fun r1 => some ((decide (r1.1 = (15 : Int))), r1.2)) else some (false, bag)).bind fun t2 => (if t2.1 = true then ((rngO 0 n).bind fun t3 => some (t3, t2.2)) else ((m_Ldraw_b9cb t2.2 wide).bind fun r4 => (rngO 0 ((1 : Int) + r4.1)).bind fun t5 => (mapS t5 r4.2 (fun x6 b7 => ((m_Ldraw_b9cb b7 n).bind fun r8 => some (r8.1, r8.2)))).bind fun y9 => (ssetO y9.1).bind fun t10 => some (t10, y9.2))))
def m_Lnet_4b3f (bag : Bag) (p : Int) (n : Int) (many : Int) (wide : Int) : Option ((T3 Int Int (List (List (T2 Int Int)))) × Bag) :=
  ((rngO 0 many).bind fun t2 => (foldO t2 (bag, []) (fun x4 (u3 : (Bag × (List (List (T2 Int Int))))) => ((m_Lplaces_285e u3.1 n wide).bind fun r6 => (mapS r6.1 r6.2 (fun x7 b8 => ((m_Lfactor_5038 b8 p).bind fun r9 => some ((T2.mk x7 r9.1), r9.2)))).bind fun y10 => ((if (!decide (u3.2 = [])) = true then ((m_Ldraw_b9cb y10.2 (8 : Int)).bind fun r11 => some ((decide (r11.1 = (7 : Int))), r11.2)) else some (false, y10.2)).bind fun t12 => ((if t12.1 = true then ((m_Ldraw_b9cb t12.2 (lenI u3.2)).bind fun r13 => (ixO u3.2 r13.1).bind fun t14 => some (t14, r13.2)) else some (y10.1, t12.2)) : Option ((List (T2 Int Int)) × Bag)).bind fun j15 => ((appO u3.2 j15.1).bind fun checks16 => some (j15.2, checks16)))))).bind fun (u17 : (Bag × (List (List (T2 Int Int))))) => some ((T3.mk p n u17.2), u17.1))
def m_Llossy_9ae4 (bag : Bag) (word : List Int) : Option ((List (Option Int)) × Bag) :=
  ((m_Ldraw_b9cb bag (8 : Int)).bind fun r1 => (ixO ([(8 : Int), (4 : Int), (3 : Int), (2 : Int), (2 : Int), (3 : Int), (8 : Int), (1 : Int)] : List Int) r1.1).bind fun t2 => ((mapS word r1.2 (fun x3 b4 => ((m_Ldraw_b9cb b4 t2).bind fun r5 => (if (decide (r5.1 = (0 : Int))) = true then some (none : Option Int) else some (some x3)).bind fun t6 => some (t6, r5.2)))).bind fun y7 => some (y7.1, y7.2)))
def m_Lgaps_3f86 (pairs : List (T2 Int Int)) (word : List (Option Int)) : Option (List Int) :=
  ((filO pairs (fun x1 => ((ixO word x1.a).bind fun t3 => (if t3.isNone = true then some (some x1.a) else some ((none : Option Int)))))).bind fun y4 => some y4)
end DL
end
section
namespace DL
def m_told_of_7cb0 (counts : List (T2 Int Int)) (a : Int) (b : Int) : Option (T2 Int Int) :=
  ((repO [(0 : Int)] (12 : Int)).bind fun t1 => (foldO counts (t1) (fun x4 (u3 : ((List Int))) => (if (decide ((0 : Int) < x4.a)) = true then ((mulO x4.a x4.b).bind fun t6 => (setO u3 (x4.a - (1 : Int)) t6).bind fun weights7 => some (weights7)) else some (u3)))).bind fun (u8 : ((List Int))) => ((rngO 0 (12 : Int)).bind fun t9 => (filO t9 (fun x11 => ((ixO u8 x11).bind fun t13 => (if (decide ((0 : Int) < t13)) = true then some (some x11) else some ((none : Option Int)))))).bind fun y14 => (maxL y14).bind fun t15 => ((rngO 0 (t15 + (1 : Int))).bind fun t16 => (foldO t16.reverse ((0 : Int), (1 : Int)) (fun x18 (u17 : (Int × Int)) => ((mulO u17.1 a).bind fun t20 => (ixO u8 x18).bind fun t21 => (mulO t21 u17.2).bind fun t22 => (some (t20 + t22)).bind fun top23 => (if (decide ((0 : Int) < x18)) = true then ((mulO u17.2 b).bind fun t24 => some (top23, t24)) else some (top23, u17.2))))).bind fun (u25 : (Int × Int)) => ((mulO u8.sum u25.2).bind fun t26 => some (T2.mk u25.1 t26)))))
def m_grown_5ac2 (letters : List (T2 Int Int)) (checks : List (T2 Int Int)) (share : T2 Int Int) (x : T2 Int Int) : Option (T2 Int Int) :=
  ((m_told_of_7cb0 checks (x.b - x.a) x.b).bind fun t1 => ((m_told_of_7cb0 letters (t1.b - t1.a) t1.b).bind fun t2 => ((mulO share.a t2.a).bind fun t3 => (mulO share.b t2.b).bind fun t4 => some (T2.mk t3 t4))))
def m_grow_4051 (letters : List (T2 Int Int)) (checks : List (T2 Int Int)) (share : T2 Int Int) (x : T2 Int Int) : Option (T2 Int Int) :=
  ((m_grown_5ac2 letters checks share x).bind fun t1 => (loopO FUEL (t1.b, t1.a) (fun (u2 : (Int × Int)) => some (decide ((0 : Int) < u2.2))) (fun (u2 : (Int × Int)) => ((modO u2.1 u2.2).bind fun t5 => some (u2.2, t5)))).bind fun (u6 : (Int × Int)) => ((divO t1.a u6.1).bind fun t7 => (divO t1.b u6.1).bind fun t8 => some (T2.mk t7 t8)))
def m_Lcounts_31eb (bag : Bag) : Option ((List (T2 Int Int)) × Bag) :=
  ((m_Ldraw_f7ac bag (5 : Int)).bind fun r1 => (if (decide (r1.1 < (2 : Int))) = true then ((m_Ldraw_f7ac r1.2 (12 : Int)).bind fun r2 => (powO (10 : Int) (6 : Int)).bind fun t3 => (m_Ldraw_f7ac r2.2 t3).bind fun r4 => some (([(T2.mk ((1 : Int) + r2.1) ((1 : Int) + r4.1))] : List (T2 Int Int)), r4.2)) else ((rngO 0 (13 : Int)).bind fun t6 => (foldO t6 ([], r1.2) (fun x8 (u7 : ((List (T2 Int Int)) × Bag)) => ((ixO ([(4 : Int), (3 : Int), (1 : Int)] : List Int) (r1.1 - (2 : Int))).bind fun t10 => (m_Ldraw_f7ac u7.2 t10).bind fun r11 => (if (decide (r11.1 = (0 : Int))) = true then ((powO (10 : Int) (6 : Int)).bind fun t12 => (powO (10 : Int) (6 : Int)).bind fun t13 => (ixO ([(4 : Int), (t12 + (1 : Int)), (t13 + (1 : Int))] : List Int) (r1.1 - (2 : Int))).bind fun t14 => (m_Ldraw_f7ac r11.2 t14).bind fun r15 => (appO u7.1 (T2.mk x8 r15.1)).bind fun found16 => some (found16, r15.2)) else some (u7.1, r11.2))))).bind fun (u17 : ((List (T2 Int Int)) × Bag)) => ((filO u17.1 (fun x18 => (if ((decide ((0 : Int) < x18.a)) && (decide ((0 : Int) < x18.b))) = true then some (some x18.a) else some ((none : Option Int))))).bind fun y20 => ((if (decide (y20 = [])) = true then ((m_Ldraw_f7ac u17.2 (12 : Int)).bind fun r21 => (some ((1 : Int) + r21.1)).bind fun degree22 => ((filO u17.1 (fun x23 => (if (!decide (x23.a = degree22)) = true then some (some x23) else some ((none : Option (T2 Int Int)))))).bind fun y25 => (m_Ldraw_f7ac r21.2 (9 : Int)).bind fun r26 => (catO y25 [(T2.mk degree22 ((1 : Int) + r26.1))]).bind fun t27 => some (t27, r26.2))) else some (u17.1, u17.2)) : Option ((List (T2 Int Int)) × Bag)).bind fun j29 => some ((isrtP j29.1), j29.2)))))
def m_Lshare_a282 (bag : Bag) : Option ((T2 Int Int) × Bag) :=
  ((m_Ldraw_f7ac bag (6 : Int)).bind fun r1 => ((powO (10 : Int) (13 : Int)).bind fun t2 => (powO (10 : Int) (6 : Int)).bind fun t3 => (modO r1.1 (3 : Int)).bind fun t4 => (ixO ([(12 : Int), (t2 - (1 : Int)), t3] : List Int) t4).bind fun t5 => (m_Ldraw_f7ac r1.2 t5).bind fun r6 => (some ((1 : Int) + r6.1)).bind fun whole7 => (if (decide (r1.1 = (5 : Int))) = true then ((m_Ldraw_f7ac r6.2 (2 : Int)).bind fun r8 => (mulO whole7 r8.1).bind fun t9 => some ((T2.mk t9 whole7), r8.2)) else ((m_Ldraw_f7ac r6.2 (whole7 + (1 : Int))).bind fun r10 => some ((T2.mk r10.1 whole7), r10.2)))))
def m_Lpowers_4981 (a : Int) : Option (List Int) :=
  ((rngO 0 (11 : Int)).bind fun t2 => (foldO t2 ([(1 : Int)]) (fun x4 (u3 : ((List Int))) => ((ixO u3 x4).bind fun t6 => (mulO t6 a).bind fun t7 => (appO u3 t7).bind fun found8 => some (found8)))).bind fun (u9 : ((List Int))) => some u9)
def m_Lmean_4398 (counts : List (T2 Int Int)) (a : Int) (b : Int) : Option (T2 Int Int) :=
  ((m_Lpowers_4981 a).bind fun t1 => ((m_Lpowers_4981 b).bind fun t2 => ((filO counts (fun x3 => (if (decide ((0 : Int) < x3.a)) = true then some (some x3) else some ((none : Option (T2 Int Int)))))).bind fun y5 => ((mapO y5 (fun x11 => ((mulO x11.a x11.b).bind fun t13 => (ixO t1 (x11.a - (1 : Int))).bind fun t14 => (mulO t13 t14).bind fun t15 => (ixO t2 ((12 : Int) - x11.a)).bind fun t16 => (mulO t15 t16).bind fun t17 => some t17))).bind fun y18 => (some y18.sum).bind fun top19 => ((mapO y5 (fun x21 => ((mulO x21.a x21.b).bind fun t23 => some t23))).bind fun y24 => (ixO t2 (11 : Int)).bind fun t25 => (mulO y24.sum t25).bind fun t26 => some (T2.mk top19 t26))))))
def m_Lgrown_ca44 (letters : List (T2 Int Int)) (checks : List (T2 Int Int)) (share : T2 Int Int) (x : T2 Int Int) : Option (T2 Int Int) :=
  ((m_Lmean_4398 checks (x.b - x.a) x.b).bind fun t1 => ((m_Lmean_4398 letters (t1.b - t1.a) t1.b).bind fun t2 => ((mulO share.a t2.a).bind fun t3 => (mulO share.b t2.b).bind fun t4 => some (T2.mk t3 t4))))
def m_Lis_share_dad5 (found : T2 Int Int) : Option Bool :=
  ((if (!true) = true then some true else ((if (!decide ((2 : Int) = (2 : Int))) = true then some true else ((m_Lwhole_0c9c found.a).bind fun t1 => (if (!t1) = true then some true else ((m_Lwhole_0c9c found.b).bind fun t2 => some (!t2))).bind fun t3 => some t3)).bind fun t4 => some t4)).bind fun t5 => (if t5 = true then some false else (if ((decide (found.a < (0 : Int))) || ((decide (found.b < found.a)) || (decide (found.b < (1 : Int))))) = true then some false else (loopO FUEL (found.a, found.b) (fun (u6 : (Int × Int)) => some (decide ((0 : Int) < u6.1))) (fun (u6 : (Int × Int)) => ((modO u6.2 u6.1).bind fun t9 => some (t9, u6.1)))).bind fun (u10 : (Int × Int)) => some (decide (u10.2 = (1 : Int))))))
def m_unit_of_f01a (figures : Int) : Option Int :=
  ((rngO 0 figures).bind fun t1 => (foldO t1 ((1 : Int)) (fun x3 (u2 : (Int)) => ((mulO u2 (10 : Int)).bind fun t5 => some (t5)))).bind fun (u6 : (Int)) => some u6)
def m_parts_below_6bd0 (share : T2 Int Int) (unit : Int) : Option Int :=
  ((mulO share.a unit).bind fun t1 => (divO t1 share.b).bind fun t2 => some t2)
def m_parts_above_8fcf (share : T2 Int Int) (unit : Int) : Option Int :=
  ((mulO share.a unit).bind fun t1 => (divO ((0 : Int) - t1) share.b).bind fun t2 => some ((0 : Int) - t2))
def m_first_bounds_87b2 (share : T2 Int Int) (unit : Int) : Option (T2 Int Int) :=
  ((m_parts_below_6bd0 share unit).bind fun t1 => (m_parts_above_8fcf share unit).bind fun t2 => some (T2.mk t1 t2))
def m_later_bounds_c765 (letters : List (T2 Int Int)) (checks : List (T2 Int Int)) (share : T2 Int Int) (unit : Int) (ahead : T2 Int Int) : Option (T2 Int Int) :=
  ((m_grown_5ac2 letters checks share (T2.mk ahead.a unit)).bind fun t1 => ((m_grown_5ac2 letters checks share (T2.mk ahead.b unit)).bind fun t2 => ((m_parts_below_6bd0 t1 unit).bind fun t3 => (m_parts_above_8fcf t2 unit).bind fun t4 => some (T2.mk t3 t4))))
def m_bounds_9250 (letters : List (T2 Int Int)) (checks : List (T2 Int Int)) (share : T2 Int Int) (figures : Int) (steps : Int) : Option (List (T2 Int Int)) :=
  ((m_unit_of_f01a figures).bind fun t1 => ((m_first_bounds_87b2 share t1).bind fun t2 => ((rngO 0 steps).bind fun t4 => (foldO t4 ([t2]) (fun x6 (u5 : ((List (T2 Int Int)))) => ((ixO u5 x6).bind fun t8 => (m_later_bounds_c765 letters checks share t1 t8).bind fun t9 => (appO u5 t9).bind fun found10 => some (found10)))).bind fun (u11 : ((List (T2 Int Int)))) => some u11)))
def m_Lunit_d302 (figures : Int) : Option Int :=
  ((unitO figures).bind fun t1 => some t1)
def m_fate_e931 (letters : List (T2 Int Int)) (checks : List (T2 Int Int)) (share : T2 Int Int) (goal : Int) (figures : Int) (most : Int) : Option (T12 Wd Int) :=
  ((m_unit_of_f01a figures).bind fun t1 => ((m_first_bounds_87b2 share t1).bind fun t2 => ((rngO 0 (most + (1 : Int))).bind fun t3 => afterO (forO t3 (t2.a, t2.b) (fun x5 (u4 : (Int × Int)) => (if (decide (u4.2 ≤ goal)) = true then some (Fl.ret (T12.mk (Wd.mk "falls") (some x5))) else ((m_later_bounds_c765 letters checks share t1 (T2.mk u4.1 u4.2)).bind fun t8 => (if ((decide (t8.a = u4.1)) && (decide (goal < u4.1))) = true then some (Fl.ret (T12.mk (Wd.mk "stays") (some u4.1))) else some (Fl.next (t8.a, t8.b))))))) (fun r => r) (fun (u9 : (Int × Int)) => some ((T12.mk (Wd.mk "open") (none : Option Int)))))))
def m_Lfirst_47c0 (share : T2 Int Int) (unit : Int) : Option (T2 Int Int) :=
  ((mulO share.a unit).bind fun t1 => (divO t1 share.b).bind fun t2 => (mulO share.a unit).bind fun t3 => (divO ((t3 + share.b) - (1 : Int)) share.b).bind fun t4 => some (T2.mk t2 t4))
def m_Llater_e325 (letters : List (T2 Int Int)) (checks : List (T2 Int Int)) (share : T2 Int Int) (unit : Int) (ahead : T2 Int Int) : Option (T2 Int Int) :=
  ((m_Lgrown_ca44 letters checks share (T2.mk ahead.a unit)).bind fun t1 => ((m_Lgrown_ca44 letters checks share (T2.mk ahead.b unit)).bind fun t2 => ((mulO t1.a unit).bind fun t3 => (divO t3 t1.b).bind fun t4 => (mulO t2.a unit).bind fun t5 => (divO ((t5 + t2.b) - (1 : Int)) t2.b).bind fun t6 => some (T2.mk t4 t6))))
end DL
end
section
namespace DL
def m_seats_cb41 (net : T3 Int Int (List (List (T2 Int Int)))) : Option (List (List Int)) :=
  ((rngO 0 net.b).bind fun t1 => (mapO t1 (fun x2 => some [])).bind fun y4 => ((rngO 0 (lenI net.c)).bind fun t6 => (foldO t6 (y4) (fun x8 (u7 : ((List (List Int)))) => ((ixO net.c x8).bind fun t10 => (foldO t10 (u7) (fun x12 (u11 : ((List (List Int)))) => ((appNO u11 x12.a x8).bind fun nest14 => some (nest14)))).bind fun (u15 : ((List (List Int)))) => some (u15)))).bind fun (u16 : ((List (List Int)))) => some u16))
def m_counted_db82 (numbers : List Int) : Option (List (T2 Int Int)) :=
  (foldO numbers (emptyD) (fun x3 (u2 : ((Dc Int))) => ((putD u2 x3 ((getD u2 x3 (0 : Int)) + (1 : Int))).bind fun many5 => some (many5)))).bind fun (u6 : ((Dc Int))) => ((mapO (isrt (keysD u6)) (fun x8 => ((atD u6 x8).bind fun t10 => some (T2.mk x8 t10)))).bind fun y11 => some y11)
def m_degrees_c02c (net : T3 Int Int (List (List (T2 Int Int)))) : Option (T2 (List (T2 Int Int)) (List (T2 Int Int))) :=
  ((m_seats_cb41 net).bind fun t1 => (mapO t1 (fun x2 => some (lenI x2))).bind fun y4 => (m_counted_db82 y4).bind fun t5 => ((mapO net.c (fun x7 => some (lenI x7))).bind fun y9 => (m_counted_db82 y9).bind fun t10 => some (T2.mk t5 t10)))
end DL
end
section
namespace DL
def m_Lprime_288d (bag : Bag) : Option (Int × Bag) :=
  ((some ([(2 : Int), (3 : Int), (5 : Int), (7 : Int), (2 : Int), (11 : Int), (101 : Int), (10007 : Int), (65537 : Int), (1000003 : Int), (998244353 : Int), (1000000007 : Int), (2147483647 : Int), (1000000000039 : Int)] : List Int)).bind fun somev1 => ((powO (10 : Int) (39 : Int)).bind fun t2 => (powO (10 : Int) (40 : Int)).bind fun t3 => (catO somev1 [(t2 + (3 : Int)), (t3 - (17 : Int)), (2305843009213693951 : Int), (618970019642690137449562111 : Int)]).bind fun t4 => ((catO t4 [(162259276829213363391578010288127 : Int), (170141183460469231731687303715884105727 : Int)]).bind fun t5 => ((m_Ldraw_f7ac bag (24 : Int)).bind fun r6 => ((if (decide (r6.1 < (20 : Int))) = true then ((ixO t5 r6.1).bind fun t7 => some (t7, r6.2)) else ((m_Ldraw_f7ac r6.2 (10000 : Int)).bind fun r8 => (m_Lprime_from_3e28 ((2 : Int) + r8.1)).bind fun t9 => some (t9, r8.2))).bind fun t10 => some (t10.1, t10.2))))))
end DL
end
section
namespace DL
def m_read_whole_df87 (text : Tx) (most : Int) : Option Int :=
  ((if (decide ((cutX text none (some (1 : Int))) = (Tx.mk [45]))) = true then some (cutX text (some (1 : Int)) none) else some text).bind fun t1 => (if ((decide (t1 = (Tx.mk []))) || (decide (most < (lenX t1)))) = true then none else afterO (forO (signsX t1) () (fun x3 (u2 : (Unit)) => ((inX x3 (Tx.mk [48, 49, 50, 51, 52, 53, 54, 55, 56, 57])).bind fun t7 => (if (!t7) = true then none else some (Fl.next ()))))) (fun r => r) (fun (u8 : (Unit)) => ((ixX t1 (0 : Int)).bind fun t9 => (if ((decide (t9 = (Tx.mk [48]))) && (decide ((1 : Int) < (lenX text)))) = true then none else ((intX text).bind fun t10 => some t10))))))

def m_words_behind_285f (line : Tx) (first : Tx) : Option (List Tx) :=
  ((splitX line (Tx.mk [32])).bind fun t1 => ((ixO t1 (0 : Int)).bind fun t2 => (if (!decide (t2 = first)) = true then none else some (cut t1 (some (1 : Int)) none))))

def m_numbers_behind_4155 (line : Tx) (first : Tx) : Option (List Int) :=
  ((m_words_behind_285f line first).bind fun t1 => (mapO t1 (fun x3 => ((m_read_whole_df87 x3 (60 : Int)).bind fun t5 => some t5))).bind fun y6 => some y6)

def m_net_text_a1fb (net : T3 Int Int (List (List (T2 Int Int)))) : Option Tx :=
  ((strO net.a).bind fun t1 => (catX (Tx.mk [110, 101, 116, 32]) t1).bind fun t2 => (catX t2 (Tx.mk [32])).bind fun t3 => (strO net.b).bind fun t4 => (catX t3 t4).bind fun t5 => (foldO net.c ([t5]) (fun x8 (u7 : ((List Tx))) => ((mapO x8 (fun x14 => ((strO x14.a).bind fun t16 => (catX t16 (Tx.mk [58])).bind fun t17 => (strO x14.b).bind fun t18 => (catX t17 t18).bind fun t19 => some t19))).bind fun y20 => (catO ([(Tx.mk [99, 104, 101, 99, 107])] : List Tx) y20).bind fun t21 => (joinX (Tx.mk [32]) t21).bind fun t22 => (appO u7 t22).bind fun lines23 => some (lines23)))).bind fun (u24 : ((List Tx))) => ((joinX (Tx.mk [10]) u24).bind fun t25 => some t25))

def m_read_pair_1956 (text : Tx) : Option (T2 Int Int) :=
  ((splitX text (Tx.mk [58])).bind fun t1 => (if (!decide ((lenI t1) = (2 : Int))) = true then none else ((ixO t1 (0 : Int)).bind fun t2 => (m_read_whole_df87 t2 (60 : Int)).bind fun t3 => (ixO t1 (1 : Int)).bind fun t4 => (m_read_whole_df87 t4 (60 : Int)).bind fun t5 => some (T2.mk t3 t5))))

def m_read_net_e7d5 (text : Tx) : Option (T3 Int Int (List (List (T2 Int Int)))) :=
  ((splitX text (Tx.mk [10])).bind fun t1 => ((ixO t1 (0 : Int)).bind fun t2 => (m_numbers_behind_4155 t2 (Tx.mk [110, 101, 116])).bind fun t3 => (if (!decide ((lenI t3) = (2 : Int))) = true then none else (foldO (cut t1 (some (1 : Int)) none) ([]) (fun x6 (u5 : ((List (List (T2 Int Int))))) => ((m_words_behind_285f x6 (Tx.mk [99, 104, 101, 99, 107])).bind fun t8 => (mapO t8 (fun x10 => ((m_read_pair_1956 x10).bind fun t12 => some t12))).bind fun y13 => (appO u5 y13).bind fun checks14 => some (checks14)))).bind fun (u15 : ((List (List (T2 Int Int))))) => ((ixO t3 (0 : Int)).bind fun t16 => (ixO t3 (1 : Int)).bind fun t17 => some (T3.mk t16 t17 u15)))))

def m_word_text_c7d1 (word : List (Option Int)) : Option Tx :=
  ((mapO word (fun x4 => ((if x4.isNone = true then some (Tx.mk [45]) else ((x4).bind fun t6 => (strO t6).bind fun t7 => some t7)).bind fun t8 => some t8))).bind fun y9 => (catO ([(Tx.mk [119, 111, 114, 100])] : List Tx) y9).bind fun t10 => (joinX (Tx.mk [32]) t10).bind fun t11 => some t11)

def m_read_word_a0ef (text : Tx) : Option (List (Option Int)) :=
  ((m_words_behind_285f text (Tx.mk [119, 111, 114, 100])).bind fun t1 => (mapO t1 (fun x4 => ((if (decide (x4 = (Tx.mk [45]))) = true then some (none : Option Int) else ((m_read_whole_df87 x4 (60 : Int)).bind fun t6 => some (some t6))).bind fun t7 => some t7))).bind fun y8 => some y8)

def m_paper_text_0009 (paper : T2 (List (T3 Int Int Int)) (List Int)) : Option Tx :=
  ((mapO paper.a (fun x8 => ((mapO [x8.a, x8.b, x8.c] (fun x11 => ((strO x11).bind fun t13 => some t13))).bind fun y14 => (catO ([(Tx.mk [109, 101, 110, 100])] : List Tx) y14).bind fun t15 => (joinX (Tx.mk [32]) t15).bind fun t16 => some t16))).bind fun y17 => ((mapO paper.b (fun x19 => ((strO x19).bind fun t21 => some t21))).bind fun y22 => (catO ([(Tx.mk [108, 101, 102, 116])] : List Tx) y22).bind fun t23 => (joinX (Tx.mk [32]) t23).bind fun t24 => (catO y17 [t24]).bind fun t25 => (joinX (Tx.mk [10]) t25).bind fun t26 => some t26))

def m_read_paper_3083 (text : Tx) : Option (T2 (List (T3 Int Int Int)) (List Int)) :=
  ((splitX text (Tx.mk [10])).bind fun t1 => afterO (forO (cut t1 none (some (-(1 : Int)))) ([]) (fun x4 (u3 : ((List (T3 Int Int Int)))) => ((m_numbers_behind_4155 x4 (Tx.mk [109, 101, 110, 100])).bind fun t8 => (if (!decide ((lenI t8) = (3 : Int))) = true then none else ((ixO t8 (0 : Int)).bind fun t9 => (ixO t8 (1 : Int)).bind fun t10 => (ixO t8 (2 : Int)).bind fun t11 => (appO u3 (T3.mk t9 t10 t11)).bind fun mends12 => some (Fl.next (mends12))))))) (fun r => r) (fun (u13 : ((List (T3 Int Int Int)))) => ((ixO t1 (-(1 : Int))).bind fun t14 => (m_numbers_behind_4155 t14 (Tx.mk [108, 101, 102, 116])).bind fun t15 => some (T2.mk u13 t15))))

def m_Lnumber_99ec (bag : Bag) : Option (Int × Bag) :=
  ((m_Ldraw_f7ac bag (4 : Int)).bind fun r1 => (if (decide (r1.1 < (2 : Int))) = true then ((m_Ldraw_f7ac r1.2 (12 : Int)).bind fun r2 => some ((r2.1 - (4 : Int)), r2.2)) else ((m_Ldraw_f7ac r1.2 (2 : Int)).bind fun r3 => (ixO ([(1 : Int), (-(1 : Int))] : List Int) r3.1).bind fun t4 => (powO (10 : Int) (60 : Int)).bind fun t5 => (ixO ([t5, (1000 : Int)] : List Int) (r1.1 - (2 : Int))).bind fun t6 => (m_Ldraw_f7ac r3.2 t6).bind fun r7 => (mulO t4 r7.1).bind fun t8 => some (t8, r7.2))))

end DL
end
section
namespace DL
def m_Lany_net_80a2 (bag : Bag) : Option ((T3 Int Int (List (List (T2 Int Int)))) × Bag) :=
  ((m_Lprime_288d bag).bind fun r1 => ((m_Ldraw_f7ac r1.2 (12 : Int)).bind fun r2 => (m_Ldraw_f7ac r2.2 (12 : Int)).bind fun r3 => (divO r3.1 (11 : Int)).bind fun t4 => (ixO ([((1 : Int) + r2.1), (400 : Int)] : List Int) t4).bind fun t5 => ((m_Ldraw_f7ac r3.2 (12 : Int)).bind fun r6 => (divO r6.1 (11 : Int)).bind fun t7 => (ixO ([(5 : Int), (240 : Int)] : List Int) t7).bind fun t8 => ((m_Ldraw_f7ac r6.2 (9 : Int)).bind fun r9 => (m_Ldraw_f7ac r9.2 (12 : Int)).bind fun r10 => (divO r10.1 (11 : Int)).bind fun t11 => (mulO t11 (b2i (decide (t8 = (5 : Int))))).bind fun t12 => (ixO ([r9.1, (400 : Int)] : List Int) t12).bind fun t13 => ((rngO 0 t13).bind fun t15 => (foldO t15 (r10.2, []) (fun x17 (u16 : (Bag × (List (List (T2 Int Int))))) => ((m_Ldraw_f7ac u16.1 t8).bind fun r19 => (rngO 0 ((1 : Int) + r19.1)).bind fun t20 => (mapS t20 r19.2 (fun x22 b23 => ((m_Ldraw_f7ac b23 t5).bind fun r24 => some (r24.1, r24.2)))).bind fun y25 => (ssetO y25.1).bind fun t26 => ((mapS t26 y25.2 (fun x28 b29 => ((m_Ldraw_f7ac b29 (r1.1 - (1 : Int))).bind fun r30 => some ((T2.mk x28 ((1 : Int) + r30.1)), r30.2)))).bind fun y31 => (appO u16.2 y31.1).bind fun checks32 => some (y31.2, checks32))))).bind fun (u33 : (Bag × (List (List (T2 Int Int))))) => some ((T3.mk r1.1 t5 u33.2), u33.1))))))

def m_Lwild_net_d90d (bag : Bag) : Option ((T3 Int Int (List (List (T2 Int Int)))) × Bag) :=
  ((m_Ldraw_f7ac bag (6 : Int)).bind fun r2 => (rngO 0 r2.1).bind fun t3 => (foldO t3 (r2.2, []) (fun x5 (u4 : (Bag × (List (List (T2 Int Int))))) => ((m_Ldraw_f7ac u4.1 (4 : Int)).bind fun r7 => (rngO 0 r7.1).bind fun t8 => (mapS t8 r7.2 (fun x11 b12 => ((m_Lnumber_99ec b12).bind fun r13 => (m_Lnumber_99ec r13.2).bind fun r14 => some ((T2.mk r13.1 r14.1), r14.2)))).bind fun y15 => (appO u4.2 y15.1).bind fun checks16 => some (y15.2, checks16)))).bind fun (u17 : (Bag × (List (List (T2 Int Int))))) => ((m_Lnumber_99ec u17.1).bind fun r18 => (m_Lnumber_99ec r18.2).bind fun r19 => some ((T3.mk r18.1 r19.1 u17.2), r19.2)))

def m_Lwritten_9474 (net : T3 Int Int (List (List (T2 Int Int)))) : Option Tx :=
  ((strO net.a).bind fun t1 => (catX (Tx.mk [110, 101, 116, 32]) t1).bind fun t2 => (catX t2 (Tx.mk [32])).bind fun t3 => (strO net.b).bind fun t4 => (catX t3 t4).bind fun t5 => (foldO net.c (t5) (fun x7 (u6 : (Tx)) => ((catX u6 (Tx.mk [10, 99, 104, 101, 99, 107])).bind fun t9 => (mapO x7 (fun x15 => ((strO x15.a).bind fun t17 => (catX (Tx.mk [32]) t17).bind fun t18 => (catX t18 (Tx.mk [58])).bind fun t19 => (strO x15.b).bind fun t20 => (catX t19 t20).bind fun t21 => some t21))).bind fun y22 => (joinX (Tx.mk []) y22).bind fun t23 => (catX t9 t23).bind fun t24 => some (t24)))).bind fun (u25 : (Tx)) => some u25)

def m_Lnet_right_3a25 (net : T3 Int Int (List (List (T2 Int Int)))) : Option Bool :=
  ((mapO net.c (fun x1 => some x1)).bind fun y3 => (some (T3.mk net.a net.b y3)).bind fun handed4 => ((m_net_text_a1fb handed4).bind fun t5 => ((m_Lwritten_9474 net).bind fun t6 => (if ((!(decide (t5 = t6))) || (!(decide (handed4 = net)))) = true then some false else ((m_read_net_e7d5 t5).bind fun t7 => (if (!(decide ((T3.mk t7.a t7.b t7.c) = net))) = true then some false else ((appAllO t7.c (T2.mk (0 : Int) (7 : Int))).bind fun nest9 => ((appO nest9 ([] : List (T2 Int Int))).bind fun found10 => ((mapO (cut ((T3.mk t7.a t7.b found10).c) none (some (-(1 : Int)))) (fun x11 => some (lenI x11))).bind fun y13 => (mapO net.c (fun x14 => some ((lenI x14) + (1 : Int)))).bind fun y16 => (if (!decide (y13 = y16)) = true then some false else ((m_read_net_e7d5 t5).bind fun t17 => some (decide (t17 = net)))))))))))))

def m_law_d1ef (script : List Int) : Option Bool :=
  ((m_Lbag_e242 script).bind fun t1 => ((rngO 0 (3 : Int)).bind fun t4 => (foldO t4 (t1, []) (fun x6 (u5 : (Bag × (List (T3 Int Int (List (List (T2 Int Int))))))) => ((m_Ldraw_f7ac u5.1 (2 : Int)).bind fun r8 => (some (decide (r8.1 = (1 : Int)))).bind fun wild9 => ((if wild9 = true then ((m_Lwild_net_d90d r8.2).bind fun r10 => some (r10.1, r10.2)) else ((m_Lany_net_80a2 r8.2).bind fun r11 => some (r11.1, r11.2))).bind fun t12 => (appO u5.2 t12.1).bind fun somev13 => some (t12.2, somev13))))).bind fun (u14 : (Bag × (List (T3 Int Int (List (List (T2 Int Int))))))) => ((catO u14.2 (cut u14.2 none (some (1 : Int)))).bind fun t15 => afterO (forO t15 () (fun x17 (u16 : (Unit)) => ((m_Lnet_right_3a25 x17).bind fun t21 => (if (!t21) = true then some (Fl.ret false) else some (Fl.next ()))))) (fun r => r) (fun (u22 : (Unit)) => some true))))

end DL
end
section
namespace DL
namespace K92
open PySem PySem.Spec PyProof.Rows L2
open Rp (rp)
def topS (i : Nat) : Stmt := PySem.Challenge.pw_fewchecks_k92_whole_net_texts.main.body.getD i (.Pass ⟨0, 0, 0, 0⟩)
abbrev s_read_whole : Stmt := topS 6
theorem sc_read_whole : FnScope ["text", "most", "figures", "sign"] ["text", "most"] (defScope s_read_whole) := ⟨rfl, rfl, rfl, by decide +kernel, rfl, by decide +kernel, by decide +kernel⟩
def S_read_whole : Spec := fun ds O r O' => ∃ (text : Tx) (most : Int) (vr : Int), ds = [dy text, dy most] ∧ m_read_whole_df87 text most = some vr ∧ r = .fro (dy vr) ∧ O = O'

abbrev s_words_behind : Stmt := topS 7
theorem sc_words_behind : FnScope ["line", "first", "words"] ["line", "first"] (defScope s_words_behind) := ⟨rfl, rfl, rfl, by decide +kernel, rfl, by decide +kernel, by decide +kernel⟩
def S_words_behind : Spec := fun ds O r O' => ∃ (line : Tx) (first : Tx) (vr : List Tx), ds = [dy line, dy first] ∧ m_words_behind_285f line first = some vr ∧ r = .fro (dy vr) ∧ O = O'

abbrev s_numbers_behind : Stmt := topS 8
theorem sc_numbers_behind : FnScope ["line", "first", "word"] ["line", "first"] (defScope s_numbers_behind) := ⟨rfl, rfl, rfl, by decide +kernel, rfl, by decide +kernel, by decide +kernel⟩
def S_numbers_behind : Spec := fun ds O r O' => ∃ (line : Tx) (first : Tx) (vr : List Int), ds = [dy line, dy first] ∧ m_numbers_behind_4155 line first = some vr ∧ r = .fro (dy vr) ∧ O = O'

abbrev s_net_text : Stmt := topS 9
theorem sc_net_text : FnScope ["net", "p", "n", "checks", "lines", "pairs", "place", "factor"] ["net"] (defScope s_net_text) := ⟨rfl, rfl, rfl, by decide +kernel, rfl, by decide +kernel, by decide +kernel⟩
def S_net_text : Spec := fun ds O r O' => ∃ (net : T3 Int Int (List (List (T2 Int Int)))) (vr : Tx), ds = [dy net] ∧ m_net_text_a1fb net = some vr ∧ r = .fro (dy vr) ∧ O = O'

abbrev s_read_pair : Stmt := topS 10
theorem sc_read_pair : FnScope ["text", "parts"] ["text"] (defScope s_read_pair) := ⟨rfl, rfl, rfl, by decide +kernel, rfl, by decide +kernel, by decide +kernel⟩
def S_read_pair : Spec := fun ds O r O' => ∃ (text : Tx) (vr : T2 Int Int), ds = [dy text] ∧ m_read_pair_1956 text = some vr ∧ r = .fro (dy vr) ∧ O = O'

abbrev s_read_net : Stmt := topS 11
theorem sc_read_net : FnScope ["text", "lines", "head", "checks", "line", "word"] ["text"] (defScope s_read_net) := ⟨rfl, rfl, rfl, by decide +kernel, rfl, by decide +kernel, by decide +kernel⟩
def S_read_net : Spec := fun ds O r O' => ∃ (text : Tx) (vr : T3 Int Int (List (List (T2 Int Int)))), ds = [dy text] ∧ m_read_net_e7d5 text = some vr ∧ r = .own [cN (vr.c : List (List (T2 Int Int)))] (fun as => dyT3 (dy (vr.a : Int)) (dy (vr.b : Int)) (dyA (as.getD 0 default))) ∧ O = O'

abbrev s_Lbag : Stmt := topS 13
theorem sc_Lbag : FnScope ["script", "stir", "cell"] ["script"] (defScope s_Lbag) := ⟨rfl, rfl, rfl, by decide +kernel, rfl, by decide +kernel, by decide +kernel⟩
def S_Lbag (K : PySem.W.Frag) : Spec := fun ds O r O' => ∃ (script : List Int) (vr : Bag), ds = [dyS K script] ∧ m_Lbag_e242 script = some vr ∧ r = .new (cBag (vr : Bag)) ∧ O = O'

abbrev s_Lstirred : Stmt := topS 14
theorem sc_Lstirred : FnScope ["bag", "many", "found", "k"] ["bag", "many"] (defScope s_Lstirred) := ⟨rfl, rfl, rfl, by decide +kernel, rfl, by decide +kernel, by decide +kernel⟩
def S_Lstirred : Spec := fun ds O r O' => ∃ (B : Addr) (bag : Bag) (many : Int) (vr : Int) (bb : Bag) (Or : Own), ds = [dyA B, dy many] ∧ O = (B, cBag bag) :: Or ∧ m_Lstirred_db2d bag many = some (vr, bb) ∧ r = .fro (dy vr) ∧ O' = (B, cBag bb) :: Or

abbrev s_Ldraw : Stmt := topS 15
theorem sc_Ldraw : FnScope ["bag", "many", "found"] ["bag", "many"] (defScope s_Ldraw) := ⟨rfl, rfl, rfl, by decide +kernel, rfl, by decide +kernel, by decide +kernel⟩
def S_Ldraw : Spec := fun ds O r O' => ∃ (B : Addr) (bag : Bag) (many : Int) (vr : Int) (bb : Bag) (Or : Own), ds = [dyA B, dy many] ∧ O = (B, cBag bag) :: Or ∧ m_Ldraw_f7ac bag many = some (vr, bb) ∧ r = .fro (dy vr) ∧ O' = (B, cBag bb) :: Or

abbrev s_Lalike : Stmt := topS 16
theorem sc_Lalike : FnScope ["found", "due", "k"] ["found", "due"] (defScope s_Lalike) := ⟨rfl, rfl, rfl, by decide +kernel, rfl, by decide +kernel, by decide +kernel⟩
abbrev s_Lprime_from : Stmt := topS 17
theorem sc_Lprime_from : FnScope ["number", "found", "k"] ["number"] (defScope s_Lprime_from) := ⟨rfl, rfl, rfl, by decide +kernel, rfl, by decide +kernel, by decide +kernel⟩
def S_Lprime_from : Spec := fun ds O r O' => ∃ (number : Int) (vr : Int), ds = [dy number] ∧ m_Lprime_from_3e28 number = some vr ∧ r = .fro (dy vr) ∧ O = O'

abbrev s_Lprime : Stmt := topS 18
theorem sc_Lprime : FnScope ["bag", "some", "way"] ["bag"] (defScope s_Lprime) := ⟨rfl, rfl, rfl, by decide +kernel, rfl, by decide +kernel, by decide +kernel⟩
def S_Lprime : Spec := fun ds O r O' => ∃ (B : Addr) (bag : Bag) (vr : Int) (bb : Bag) (Or : Own), ds = [dyA B] ∧ O = (B, cBag bag) :: Or ∧ m_Lprime_288d bag = some (vr, bb) ∧ r = .fro (dy vr) ∧ O' = (B, cBag bb) :: Or

abbrev s_Lnumber : Stmt := topS 19
theorem sc_Lnumber : FnScope ["bag", "way"] ["bag"] (defScope s_Lnumber) := ⟨rfl, rfl, rfl, by decide +kernel, rfl, by decide +kernel, by decide +kernel⟩
def S_Lnumber : Spec := fun ds O r O' => ∃ (B : Addr) (bag : Bag) (vr : Int) (bb : Bag) (Or : Own), ds = [dyA B] ∧ O = (B, cBag bag) :: Or ∧ m_Lnumber_99ec bag = some (vr, bb) ∧ r = .fro (dy vr) ∧ O' = (B, cBag bb) :: Or

abbrev s_Lany_net : Stmt := topS 20
theorem sc_Lany_net : FnScope ["bag", "p", "n", "wide", "many", "checks", "c", "places", "place", "k"] ["bag"] (defScope s_Lany_net) := ⟨rfl, rfl, rfl, by decide +kernel, rfl, by decide +kernel, by decide +kernel⟩
def S_Lany_net : Spec := fun ds O r O' => ∃ (B : Addr) (bag : Bag) (vr : T3 Int Int (List (List (T2 Int Int)))) (bb : Bag) (Or : Own), ds = [dyA B] ∧ O = (B, cBag bag) :: Or ∧ m_Lany_net_80a2 bag = some (vr, bb) ∧ r = .fro (dy vr) ∧ O' = (B, cBag bb) :: Or

abbrev s_Lwild_net : Stmt := topS 21
theorem sc_Lwild_net : FnScope ["bag", "checks", "c", "k"] ["bag"] (defScope s_Lwild_net) := ⟨rfl, rfl, rfl, by decide +kernel, rfl, by decide +kernel, by decide +kernel⟩
def S_Lwild_net : Spec := fun ds O r O' => ∃ (B : Addr) (bag : Bag) (vr : T3 Int Int (List (List (T2 Int Int)))) (bb : Bag) (Or : Own), ds = [dyA B] ∧ O = (B, cBag bag) :: Or ∧ m_Lwild_net_d90d bag = some (vr, bb) ∧ r = .fro (dy vr) ∧ O' = (B, cBag bb) :: Or

abbrev s_Lwritten : Stmt := topS 22
theorem sc_Lwritten : FnScope ["net", "text", "pairs", "place", "factor"] ["net"] (defScope s_Lwritten) := ⟨rfl, rfl, rfl, by decide +kernel, rfl, by decide +kernel, by decide +kernel⟩
def S_Lwritten : Spec := fun ds O r O' => ∃ (net : T3 Int Int (List (List (T2 Int Int)))) (vr : Tx), ds = [dy net] ∧ m_Lwritten_9474 net = some vr ∧ r = .fro (dy vr) ∧ O = O'

abbrev s_Lnet_right : Stmt := topS 23
theorem sc_Lnet_right : FnScope ["net", "handed", "pairs", "text", "found"] ["net"] (defScope s_Lnet_right) := ⟨rfl, rfl, rfl, by decide +kernel, rfl, by decide +kernel, by decide +kernel⟩
def S_Lnet_right : Spec := fun ds O r O' => ∃ (net : T3 Int Int (List (List (T2 Int Int)))) (vr : Bool), ds = [dy net] ∧ m_Lnet_right_3a25 net = some vr ∧ r = .fro (dy vr) ∧ O = O'

abbrev s_law : Stmt := topS 24
theorem sc_law : FnScope ["script", "bag", "some", "k", "wild", "net"] ["script"] (defScope s_law) := ⟨rfl, rfl, rfl, by decide +kernel, rfl, by decide +kernel, by decide +kernel⟩
def S_law (K : PySem.W.Frag) : Spec := fun ds O r O' => ∃ (script : List Int) (vr : Bool), ds = [dyS K script] ∧ m_law_d1ef script = some vr ∧ r = .fro (dy vr) ∧ O = O'

section
variable {P : Program} {w : World} {K : PySem.W.Frag} {mg : Str → Option Value} {base : Heap}
theorem ok_read_whole (z_int : mg "int" = none) (z_len : mg "len" = none) {t_FIGURES : Tok} (c_FIGURES : mg "FIGURES" = some (.str (Str.ofString "0123456789") t_FIGURES)) {f : Addr} {fd : FuncData} (F : Fun K "read_whole" "read_whole" s_read_whole f fd) : FnOk P w K mg base CX0 1 f fd ["text", "most"] (sp S_read_whole) := by
  refine fn_ok F sc_read_whole (fun ds O r O' h => by obtain ⟨text, most, vr, rfl, _, rfl, rfl⟩ := h; rfl) (fun cdv A outer s H E hr => ⟨_, (pss_cons (ps_set (i := 2) sc_read_whole.nd rfl (by first | exact Or.inl rfl | exact Or.inr rfl) (pe_ifExp (pt_cmpR op_eq (pe_slice sl_str (pv 0) po_none (po_some pe_int)) pe_str (nomark _)) (pe_slice sl_str (pv 0) (po_some pe_int) po_none) (pv 0)))
        (pss_cons (ps_if (PW.pt (pw_or (pt_cmpR op_eq (pv 2) pe_str (nomark _)) (pw_or1 (pt_cmpR op_gt (pe_callB kc_lenX (by rfl) z_len (by decide +kernel) (pa_cons (pv 2) pa_nil)) (pv 1) (nomark _))))) (pss_one ps_dead) pss_nil)
        (pss_cons (ps_for PassesOwn.never rfl (pi_str (pv 2)) (pg_name (i := 3) sc_read_whole.nd rfl (by first | exact Or.inl rfl | exact Or.inr rfl)) (pss_one (ps_if (pt_cmpR ko_notInX (pv 3) (pe_glob (v := V.str (Str.ofString "0123456789")) rfl c_FIGURES ⟨_, rfl⟩) (by rfl)) (pss_one ps_dead) pss_nil)))
        (pss_cons (ps_if (PW.pt (pw_and (pt_cmpR op_eq (pe_ix ix_str (pv 2) pe_int (fun _ _ => rfl)) pe_str (nomark _)) (pw_and1 (pt_cmpR op_gt (pe_callB kc_lenX (by rfl) z_len (by decide +kernel) (pa_cons (pv 0) pa_nil)) pe_int (nomark _))))) (pss_one ps_dead) pss_nil)
        (pss_one (ps_ret (pe_callTy (T := "int") kc_intX (by rfl) z_int (by decide +kernel) (pa_cons (pv 0) pa_nil)))))))), fun ds O r O' hS G0 Q hrt => ?_⟩)
  obtain ⟨text, most, vr, rfl, hm, rfl, rfl⟩ := hS
  have hret : ∀ x : Int, some x = some vr → RtD G0 Q (dy x) O := fun x e => by cases e; exact hrt
  clear hrt
  unfold m_read_whole_df87 at hm
  obtain ⟨t1, ht1, hm⟩ := bE hm
  try dsimp only
  refine nx_seq (nx_asgD (i := 2) (ev_if (et_test (ev_eq (ev_cutX (ev_var rfl) eo_none (eo_some ev_int)) (ev_tx "\x2d" [45] (by decide +kernel) (by decide +kernel)))) (fun hc => ev_of (ev_cutX (ev_var rfl) (eo_some ev_int) eo_none) (Option.some.inj (iT hc ht1))) (fun hc => ev_of (ev_var rfl) (Option.some.inj (iF hc ht1)))) ?_)
  show Nx _ _ [some (dy text), some (dy most), some (dy t1), none] (O)
  try dsimp only
  refine nx_seq (nx_if (et_orP (et_test (ev_eq (ev_var rfl) (ev_tx "" [] (by decide +kernel) (by decide +kernel)))) (et_test (ev_gt (ev_lenX (ev_var rfl)) (ev_var rfl)))) (fun hc => ?_) (fun hc => ?_))
  · have hm := iT hc hm
    cases hm
  · have hm := iF hc hm
    refine nx_next ?_
    try dsimp only
    obtain ⟨fl11, hf12, hm⟩ := aE hm
    try dsimp only
    refine nx_seq (nx_for (τI := fun (u2 : (Unit)) => [some (dy text), some (dy most), some (dy t1), none]) (OI := fun (u2 : (Unit)) => (O)) hf12 (wk_signs (ev_var rfl)) (.same (.same (.same (.non .nil)))) (fun _ => trivial) ?_ ?_)
    · intro G1 e1 x3 u2 fl1 hx hq D1 hD hnx h3
      have hret5 : ∀ x, some (Fl.ret (x)) = some fl1 → RtD G1 D1.rt (dy (x : Int)) O := fun x e => by
        have e2 := h3 _ (Option.some.inj e).symm
        have e3 := hm
        rw [e2] at e3
        rw [hD]
        exact (hret x e3).up e1
      clear hm h3
      have hm := hq
      clear hq
      refine ⟨_, _, tg_name, ?_⟩
      show Nx _ _ [some (dy text), some (dy most), some (dy t1), some (dy x3)] (O)
      obtain ⟨t7, ht7, hm⟩ := bE hm
      try dsimp only
      refine nx_if (et_test (ev_notInX (ev_var rfl) (ev_tx "0123456789" [48, 49, 50, 51, 52, 53, 54, 55, 56, 57] (by decide +kernel) (by decide +kernel)) ht7)) (fun hc => ?_) (fun hc => ?_)
      · have hm := iT hc hm
        cases hm
      · have hm := iF hc hm
        refine nx_next ?_
        try dsimp only
        exact nx_sub (.same (.same (.same (.non .nil)))) (hnx _ (Option.some.inj hm).symm)
    · intro u8 hs
      subst hs
      show Nx _ _ [some (dy text), some (dy most), some (dy t1), none] (O)
      have hm := aftN hm
      obtain ⟨t9, ht9, hm⟩ := bE hm
      try dsimp only
      refine nx_seq (nx_if (et_andP (et_test (ev_eq (ev_ixX (ev_var rfl) ev_int ht9) (ev_tx "0" [48] (by decide +kernel) (by decide +kernel)))) (et_test (ev_gt (ev_lenX (ev_var rfl)) ev_int))) (fun hc => ?_) (fun hc => ?_))
      · have hm := iT hc hm
        cases hm
      · have hm := iF hc hm
        refine nx_next ?_
        try dsimp only
        obtain ⟨t10, ht10, hm⟩ := bE hm
        try dsimp only
        refine nx_ret (ev_intX (ev_var rfl) ht10) (hret _ hm)

theorem ok_words_behind  {f : Addr} {fd : FuncData} (F : Fun K "words_behind" "words_behind" s_words_behind f fd) : FnOk P w K mg base CX0 1 f fd ["line", "first"] (sp S_words_behind) := by
  refine fn_ok F sc_words_behind (fun ds O r O' h => by obtain ⟨line, first, vr, rfl, _, rfl, rfl⟩ := h; rfl) (fun cdv A outer s H E hr => ⟨_, (pss_cons (ps_set (i := 2) sc_words_behind.nd rfl (by first | exact Or.inl rfl | exact Or.inr rfl) (pe_splitX (pv 0) pe_str))
        (pss_cons (ps_if (pt_cmpR op_ne (pe_ix (kx_list K rfl) (pv 2) pe_int (fun _ _ => rfl)) (pv 1) (nomark _)) (pss_one ps_dead) pss_nil)
        (pss_one (ps_ret (pe_slice (kl_list K rfl) (pv 2) (po_some pe_int) po_none))))), fun ds O r O' hS G0 Q hrt => ?_⟩)
  obtain ⟨line, first, vr, rfl, hm, rfl, rfl⟩ := hS
  have hret : ∀ x : List Tx, some x = some vr → RtD G0 Q (dy x) O := fun x e => by cases e; exact hrt
  clear hrt
  unfold m_words_behind_285f at hm
  obtain ⟨t1, ht1, hm⟩ := bE hm
  try dsimp only
  refine nx_seq (nx_asgD (i := 2) (EvC.fr (en_splitX (ev_var rfl) (ev_tx " " [32] (by decide +kernel) (by decide +kernel)) ht1)) ?_)
  show Nx _ _ [some (dy line), some (dy first), some (dy t1)] (O)
  obtain ⟨t2, ht2, hm⟩ := bE hm
  try dsimp only
  refine nx_seq (nx_if (et_test (ev_ne (ev_ix (ls_fr (ev_var rfl)) ev_int trivial ht2) (ev_var rfl))) (fun hc => ?_) (fun hc => ?_))
  · have hm := iT hc hm
    cases hm
  · have hm := iF hc hm
    refine nx_next ?_
    try dsimp only
    try dsimp only
    refine nx_ret (EvC.fr (en_cut (ls_fr (ev_var rfl)) (eo_some ev_int) eo_none trivial)) (hret _ hm)

theorem ok_numbers_behind (d_read_whole : Def P w K mg base "read_whole" 1 ["text", "most"] S_read_whole) (d_words_behind : Def P w K mg base "words_behind" 1 ["line", "first"] S_words_behind) {t_MOST : Tok} (c_MOST : mg "MOST" = some (.int 60 t_MOST)) {f : Addr} {fd : FuncData} (F : Fun K "numbers_behind" "numbers_behind" s_numbers_behind f fd) : FnOk P w K mg base CX0 2 f fd ["line", "first"] (sp S_numbers_behind) := by
  obtain ⟨f_read_whole, fd_read_whole, G_read_whole, g_read_whole, k_read_whole, b_read_whole⟩ := d_read_whole
  obtain ⟨f_words_behind, fd_words_behind, G_words_behind, g_words_behind, k_words_behind, b_words_behind⟩ := d_words_behind
  refine fn_ok F sc_numbers_behind (fun ds O r O' h => by obtain ⟨line, first, vr, rfl, _, rfl, rfl⟩ := h; rfl) (fun cdv A outer s H E hr => ⟨_, (pss_one (ps_ret (pe_lc (own := [("word", 2)]) (by rfl) sc_numbers_behind.nd (ki_list K rfl (pe_call G_words_behind (hr.mono (by decide)) (by rfl) g_words_behind k_words_behind b_words_behind .nil pass0 (pa_cons (pv 0) (pa_cons (pv 1) pa_nil)))) (blkOk_by (N := ["line", "first", "word"]) (sc := defScope s_numbers_behind) (by decide +kernel)) (fun _ _ _ _ _ => (pg_name (i := 2) sc_numbers_behind.nd rfl (by first | exact Or.inl rfl | exact Or.inr rfl))) (fun _ _ _ _ _ => pts_nil) (fun _ _ _ _ _ => (pe_call G_read_whole (hr.mono (by decide)) (by rfl) g_read_whole k_read_whole b_read_whole .nil pass0 (pa_cons (pv 2) (pa_cons (pe_glob (v := V.int 60) rfl c_MOST ⟨_, rfl⟩) pa_nil))))))), fun ds O r O' hS G0 Q hrt => ?_⟩)
  obtain ⟨line, first, vr, rfl, hm, rfl, rfl⟩ := hS
  have hret : ∀ x : List Int, some x = some vr → RtD G0 Q (dy x) O := fun x e => by cases e; exact hrt
  clear hrt
  unfold m_numbers_behind_4155 at hm
  obtain ⟨t1, ht1, hm⟩ := bE hm
  obtain ⟨y6, hy6, hm⟩ := bE hm
  try dsimp only
  refine nx_ret (EvC.fr (en_mapO hy6 (wk_list (ls_fr (ev_call (ea_cons (ev_var rfl) (ea_cons (ev_var rfl) ea_nil)) ⟨_, _, _, rfl, ht1, rfl, rfl⟩)) trivial) (fun _ => trivial) (by
    intro pC x3 y hx hq
    obtain ⟨t5, ht5, hq⟩ := bE hq
    have hq := Option.some.inj hq
    subst hq
    exact ⟨_, _, tg_name, by decide, (ev_call (ea_cons (ev_var rfl) (ea_cons ev_int ea_nil)) ⟨_, _, _, rfl, ht5, rfl, rfl⟩)⟩))) (hret _ hm)

theorem ok_net_text (z_str : mg "str" = none) {f : Addr} {fd : FuncData} (F : Fun K "net_text" "net_text" s_net_text f fd) : FnOk P w K mg base CX0 1 f fd ["net"] (sp S_net_text) := by
  refine fn_ok F sc_net_text (fun ds O r O' h => by obtain ⟨net, vr, rfl, _, rfl, rfl⟩ := h; rfl) (fun cdv A outer s H E hr => ⟨_, (pss_cons (ps_asg (pv 0) (kg_tup K (n := 3) rfl rfl (pgs_cons (pg_name (i := 1) sc_net_text.nd rfl (by first | exact Or.inl rfl | exact Or.inr rfl)) (pgs_cons (pg_name (i := 2) sc_net_text.nd rfl (by first | exact Or.inl rfl | exact Or.inr rfl)) (pgs_cons (pg_name (i := 3) sc_net_text.nd rfl (by first | exact Or.inl rfl | exact Or.inr rfl)) pgs_nil)))))
        (pss_cons (ps_set (i := 4) sc_net_text.nd rfl (by first | exact Or.inl rfl | exact Or.inr rfl) (pe_lst (pa_cons (pe_op ko_catX (pe_op ko_catX (pe_op ko_catX pe_str (pe_callTy (T := "str") kc_strX (by rfl) z_str (by decide +kernel) (pa_cons (pv 1) pa_nil))) pe_str) (pe_callTy (T := "str") kc_strX (by rfl) z_str (by decide +kernel) (pa_cons (pv 2) pa_nil))) pa_nil)))
        (pss_cons (ps_for PassesOwn.never rfl (ki_list K rfl (pv 3)) (pg_name (i := 5) sc_net_text.nd rfl (by first | exact Or.inl rfl | exact Or.inr rfl)) (pss_one (ps_expr (pe_bm PySem.F.plainAttrs_list PySem.F.slot_list_append PySem.F.type_list_append mt_append (pv 4) (pa_cons (pe_joinX K rfl pe_str (pe_op op_cat (pe_lst (pa_cons pe_str pa_nil)) (pe_lc (own := [("place", 6), ("factor", 7)]) (by rfl) sc_net_text.nd (ki_list K rfl (pv 5)) (blkOk_by (N := ["net", "p", "n", "checks", "lines", "pairs", "place", "factor"]) (sc := defScope s_net_text) (by decide +kernel)) (fun _ _ _ _ _ => (kg_tup K (n := 2) rfl rfl (pgs_cons (pg_name (i := 6) sc_net_text.nd rfl (by first | exact Or.inl rfl | exact Or.inr rfl)) (pgs_cons (pg_name (i := 7) sc_net_text.nd rfl (by first | exact Or.inl rfl | exact Or.inr rfl)) pgs_nil)))) (fun _ _ _ _ _ => pts_nil) (fun _ _ _ _ _ => (pe_op ko_catX (pe_op ko_catX (pe_callTy (T := "str") kc_strX (by rfl) z_str (by decide +kernel) (pa_cons (pv 6) pa_nil)) pe_str) (pe_callTy (T := "str") kc_strX (by rfl) z_str (by decide +kernel) (pa_cons (pv 7) pa_nil))))))) pa_nil)))))
        (pss_one (ps_ret (pe_joinX K rfl pe_str (pv 4))))))), fun ds O r O' hS G0 Q hrt => ?_⟩)
  obtain ⟨net, vr, rfl, hm, rfl, rfl⟩ := hS
  have hret : ∀ x : Tx, some x = some vr → RtD G0 Q (dy x) O := fun x e => by cases e; exact hrt
  clear hrt
  unfold m_net_text_a1fb at hm
  try dsimp only
  refine nx_seq (nx_asg (ev_var rfl) (tg_3 tg_name tg_name tg_name) ?_)
  show Nx _ _ [some (dy net), some (dy net.a), some (dy net.b), some (dy net.c), none, none, none, none] (O)
  obtain ⟨t1, ht1, hm⟩ := bE hm
  obtain ⟨t2, ht2, hm⟩ := bE hm
  obtain ⟨t3, ht3, hm⟩ := bE hm
  obtain ⟨t4, ht4, hm⟩ := bE hm
  obtain ⟨t5, ht5, hm⟩ := bE hm
  try dsimp only
  refine nx_seq (nx_asgC (i := 4) (en_lst (xs := ([t5] : List Tx)) (ea_cons (ev_catX (ev_catX (ev_catX (ev_tx "net " [110, 101, 116, 32] (by decide +kernel) (by decide +kernel)) (ev_strX (ev_var rfl) ht1) ht2) (ev_tx " " [32] (by decide +kernel) (by decide +kernel)) ht3) (ev_strX (ev_var rfl) ht4) ht5) ea_nil) ⟨rfl, trivial⟩ (by show 1 ≤ 1000000; decide)) (fun l6 => ?_))
  -- lines
  obtain ⟨u24, hu24, hm⟩ := bE hm
  try dsimp only
  refine nx_seq (nx_fold (τI := fun (u7 : ((List Tx))) => [some (dy net), some (dy net.a), some (dy net.b), some (dy net.c), some (dyA l6), none, none, none]) (OI := fun (u7 : ((List Tx))) => ((l6, cL (u7 : List Tx)) :: O)) hu24 (wk_list (ls_fr (ev_var rfl)) trivial) (.same (.same (.same (.same (.same (.non (.non (.non .nil)))))))) (fun _ => trivial) ?_ ?_)
  · clear hm
    intro G1 e1 x8 u7 sN hx hm D1 hD hnx
    refine ⟨_, _, tg_name, ?_⟩
    show Nx _ _ [some (dy net), some (dy net.a), some (dy net.b), some (dy net.c), some (dyA l6), some (dy x8), none, none] ((l6, cL (u7 : List Tx)) :: O)
    obtain ⟨y20, hy20, hm⟩ := bE hm
    obtain ⟨t21, ht21, hm⟩ := bE hm
    obtain ⟨t22, ht22, hm⟩ := bE hm
    obtain ⟨lines23, hlines23, hm⟩ := bE hm
    try dsimp only
    refine nx_appP (xs0 := u7) 0 (ev_own rfl) rfl (ev_joinX (ev_tx " " [32] (by decide +kernel) (by decide +kernel)) (ls_new (en_cat (ls_new (en_lst (xs := ([(Tx.mk [99, 104, 101, 99, 107])] : List Tx)) (ea_cons (ev_tx "check" [99, 104, 101, 99, 107] (by decide +kernel) (by decide +kernel)) ea_nil) ⟨rfl, trivial⟩ (by show 1 ≤ 1000000; decide))) (ls_new (en_mapO hy20 (wk_list (ls_fr (ev_var rfl)) trivial) (fun _ => trivial) (by
      intro pC x14 y hx hq
      obtain ⟨t16, ht16, hq⟩ := bE hq
      obtain ⟨t17, ht17, hq⟩ := bE hq
      obtain ⟨t18, ht18, hq⟩ := bE hq
      obtain ⟨t19, ht19, hq⟩ := bE hq
      have hq := Option.some.inj hq
      subst hq
      exact ⟨_, _, (tg_2 tg_name tg_name), by decide, (ev_catX (ev_catX (ev_strX (ev_var rfl) ht16) (ev_tx "\x3a" [58] (by decide +kernel) (by decide +kernel)) ht17) (ev_strX (ev_var rfl) ht18) ht19)⟩))) trivial trivial ht21)) trivial ht22) rfl hlines23 ?_
    show Nx _ _ [some (dy net), some (dy net.a), some (dy net.b), some (dy net.c), some (dyA l6), some (dy x8), none, none] ((l6, cL (lines23 : List Tx)) :: O)
    cases (Option.some.inj hm)
    exact nx_sub (.same (.same (.same (.same (.same (.non (.non (.non .nil)))))))) hnx
  · show Nx _ _ [some (dy net), some (dy net.a), some (dy net.b), some (dy net.c), some (dyA l6), none, none, none] ((l6, cL (u24 : List Tx)) :: O)
    obtain ⟨t25, ht25, hm⟩ := bE hm
    try dsimp only
    refine nx_ret (ev_joinX (ev_tx "\x0a" [10] (by decide +kernel) (by decide +kernel)) (ls_ownP 0 (ev_own rfl) rfl) ⟨0, rfl⟩ ht25) (RtD.drop (hret _ hm))

theorem ok_read_pair (d_read_whole : Def P w K mg base "read_whole" 1 ["text", "most"] S_read_whole) (z_len : mg "len" = none) {t_MOST : Tok} (c_MOST : mg "MOST" = some (.int 60 t_MOST)) {f : Addr} {fd : FuncData} (F : Fun K "read_pair" "read_pair" s_read_pair f fd) : FnOk P w K mg base CX0 2 f fd ["text"] (sp S_read_pair) := by
  obtain ⟨f_read_whole, fd_read_whole, G_read_whole, g_read_whole, k_read_whole, b_read_whole⟩ := d_read_whole
  refine fn_ok F sc_read_pair (fun ds O r O' h => by obtain ⟨text, vr, rfl, _, rfl, rfl⟩ := h; rfl) (fun cdv A outer s H E hr => ⟨_, (pss_cons (ps_set (i := 1) sc_read_pair.nd rfl (by first | exact Or.inl rfl | exact Or.inr rfl) (pe_splitX (pv 0) pe_str))
        (pss_cons (ps_if (pt_cmpR op_ne (pe_callB (kc_len K rfl) (by rfl) z_len (by decide +kernel) (pa_cons (pv 1) pa_nil)) pe_int (nomark _)) (pss_one ps_dead) pss_nil)
        (pss_one (ps_ret (pe_tup (pa_cons (pe_call G_read_whole (hr.mono (by decide)) (by rfl) g_read_whole k_read_whole b_read_whole .nil pass0 (pa_cons (pe_ix (kx_list K rfl) (pv 1) pe_int (fun _ _ => rfl)) (pa_cons (pe_glob (v := V.int 60) rfl c_MOST ⟨_, rfl⟩) pa_nil))) (pa_cons (pe_call G_read_whole (hr.mono (by decide)) (by rfl) g_read_whole k_read_whole b_read_whole .nil pass0 (pa_cons (pe_ix (kx_list K rfl) (pv 1) pe_int (fun _ _ => rfl)) (pa_cons (pe_glob (v := V.int 60) rfl c_MOST ⟨_, rfl⟩) pa_nil))) pa_nil))))))), fun ds O r O' hS G0 Q hrt => ?_⟩)
  obtain ⟨text, vr, rfl, hm, rfl, rfl⟩ := hS
  have hret : ∀ x : T2 Int Int, some x = some vr → RtD G0 Q (dy x) O := fun x e => by cases e; exact hrt
  clear hrt
  unfold m_read_pair_1956 at hm
  obtain ⟨t1, ht1, hm⟩ := bE hm
  try dsimp only
  refine nx_seq (nx_asgD (i := 1) (EvC.fr (en_splitX (ev_var rfl) (ev_tx "\x3a" [58] (by decide +kernel) (by decide +kernel)) ht1)) ?_)
  show Nx _ _ [some (dy text), some (dy t1)] (O)
  try dsimp only
  refine nx_seq (nx_if (et_test (ev_ne (ev_len (ls_fr (ev_var rfl)) trivial) ev_int)) (fun hc => ?_) (fun hc => ?_))
  · have hm := iT hc hm
    cases hm
  · have hm := iF hc hm
    refine nx_next ?_
    try dsimp only
    obtain ⟨t2, ht2, hm⟩ := bE hm
    obtain ⟨t3, ht3, hm⟩ := bE hm
    obtain ⟨t4, ht4, hm⟩ := bE hm
    obtain ⟨t5, ht5, hm⟩ := bE hm
    try dsimp only
    refine nx_ret (ev_tup2 (ea_cons (ev_call (ea_cons (ev_ix (ls_fr (ev_var rfl)) ev_int trivial ht2) (ea_cons ev_int ea_nil)) ⟨_, _, _, rfl, ht3, rfl, rfl⟩) (ea_cons (ev_call (ea_cons (ev_ix (ls_fr (ev_var rfl)) ev_int trivial ht4) (ea_cons ev_int ea_nil)) ⟨_, _, _, rfl, ht5, rfl, rfl⟩) ea_nil))) (hret _ hm)

theorem ok_read_net (d_numbers_behind : Def P w K mg base "numbers_behind" 2 ["line", "first"] S_numbers_behind) (d_read_pair : Def P w K mg base "read_pair" 2 ["text"] S_read_pair) (d_words_behind : Def P w K mg base "words_behind" 1 ["line", "first"] S_words_behind) (z_len : mg "len" = none) {f : Addr} {fd : FuncData} (F : Fun K "read_net" "read_net" s_read_net f fd) : FnOk P w K mg base CX0 3 f fd ["text"] (sp S_read_net) := by
  obtain ⟨f_numbers_behind, fd_numbers_behind, G_numbers_behind, g_numbers_behind, k_numbers_behind, b_numbers_behind⟩ := d_numbers_behind
  obtain ⟨f_read_pair, fd_read_pair, G_read_pair, g_read_pair, k_read_pair, b_read_pair⟩ := d_read_pair
  obtain ⟨f_words_behind, fd_words_behind, G_words_behind, g_words_behind, k_words_behind, b_words_behind⟩ := d_words_behind
  refine fn_ok F sc_read_net (fun ds O r O' h => by obtain ⟨text, vr, rfl, _, rfl, rfl⟩ := h; rfl) (fun cdv A outer s H E hr => ⟨_, (pss_cons (ps_set (i := 1) sc_read_net.nd rfl (by first | exact Or.inl rfl | exact Or.inr rfl) (pe_splitX (pv 0) pe_str))
        (pss_cons (ps_set (i := 2) sc_read_net.nd rfl (by first | exact Or.inl rfl | exact Or.inr rfl) (pe_call G_numbers_behind (hr.mono (by decide)) (by rfl) g_numbers_behind k_numbers_behind b_numbers_behind .nil pass0 (pa_cons (pe_ix (kx_list K rfl) (pv 1) pe_int (fun _ _ => rfl)) (pa_cons pe_str pa_nil))))
        (pss_cons (ps_if (pt_cmpR op_ne (pe_callB (kc_len K rfl) (by rfl) z_len (by decide +kernel) (pa_cons (pv 2) pa_nil)) pe_int (nomark _)) (pss_one ps_dead) pss_nil)
        (pss_cons (ps_set (i := 3) sc_read_net.nd rfl (by first | exact Or.inl rfl | exact Or.inr rfl) (pe_lst pa_nil))
        (pss_cons (ps_for PassesOwn.never rfl (ki_list K rfl (pe_slice (kl_list K rfl) (pv 1) (po_some pe_int) po_none)) (pg_name (i := 4) sc_read_net.nd rfl (by first | exact Or.inl rfl | exact Or.inr rfl)) (pss_one (ps_expr (pe_bm PySem.F.plainAttrs_list PySem.F.slot_list_append PySem.F.type_list_append mt_append (pv 3) (pa_cons (pe_lc (own := [("word", 5)]) (by rfl) sc_read_net.nd (ki_list K rfl (pe_call G_words_behind (hr.mono (by decide)) (by rfl) g_words_behind k_words_behind b_words_behind .nil pass0 (pa_cons (pv 4) (pa_cons pe_str pa_nil)))) (blkOk_by (N := ["text", "lines", "head", "checks", "line", "word"]) (sc := defScope s_read_net) (by decide +kernel)) (fun _ _ _ _ _ => (pg_name (i := 5) sc_read_net.nd rfl (by first | exact Or.inl rfl | exact Or.inr rfl))) (fun _ _ _ _ _ => pts_nil) (fun _ _ _ _ _ => (pe_call G_read_pair (hr.mono (by decide)) (by rfl) g_read_pair k_read_pair b_read_pair .nil pass0 (pa_cons (pv 5) pa_nil)))) pa_nil)))))
        (pss_one (ps_ret (pe_tup (pa_cons (pe_ix (kx_list K rfl) (pv 2) pe_int (fun _ _ => rfl)) (pa_cons (pe_ix (kx_list K rfl) (pv 2) pe_int (fun _ _ => rfl)) (pa_cons (pv 3) pa_nil))))))))))), fun ds O r O' hS G0 Q hrt => ?_⟩)
  obtain ⟨text, vr, rfl, hm, rfl, rfl⟩ := hS
  have hret : ∀ x : T3 Int Int (List (List (T2 Int Int))), some x = some vr → RtO G0 Q [cN (x.c : List (List (T2 Int Int)))] (fun as => dyT3 (dy (x.a : Int)) (dy (x.b : Int)) (dyA (as.getD 0 default))) O := fun x e => by cases e; exact hrt
  clear hrt
  unfold m_read_net_e7d5 at hm
  obtain ⟨t1, ht1, hm⟩ := bE hm
  try dsimp only
  refine nx_seq (nx_asgD (i := 1) (EvC.fr (en_splitX (ev_var rfl) (ev_tx "\x0a" [10] (by decide +kernel) (by decide +kernel)) ht1)) ?_)
  show Nx _ _ [some (dy text), some (dy t1), none, none, none, none] (O)
  obtain ⟨t2, ht2, hm⟩ := bE hm
  obtain ⟨t3, ht3, hm⟩ := bE hm
  try dsimp only
  refine nx_seq (nx_asgD (i := 2) (ev_call (ea_cons (ev_ix (ls_fr (ev_var rfl)) ev_int trivial ht2) (ea_cons (ev_tx "net" [110, 101, 116] (by decide +kernel) (by decide +kernel)) ea_nil)) ⟨_, _, _, rfl, ht3, rfl, rfl⟩) ?_)
  show Nx _ _ [some (dy text), some (dy t1), some (dy t3), none, none, none] (O)
  try dsimp only
  refine nx_seq (nx_if (et_test (ev_ne (ev_len (ls_fr (ev_var rfl)) trivial) ev_int)) (fun hc => ?_) (fun hc => ?_))
  · have hm := iT hc hm
    cases hm
  · have hm := iF hc hm
    refine nx_next ?_
    try dsimp only
    try dsimp only
    refine nx_seq (nx_asgC (i := 3) (ec_nilN (α := T2 Int Int)) (fun l4 => ?_))
    -- checks
    obtain ⟨u15, hu15, hm⟩ := bE hm
    try dsimp only
    refine nx_seq (nx_fold (τI := fun (u5 : ((List (List (T2 Int Int))))) => [some (dy text), some (dy t1), some (dy t3), some (dyA l4), none, none]) (OI := fun (u5 : ((List (List (T2 Int Int))))) => ((l4, cN (u5 : List (List (T2 Int Int)))) :: O)) hu15 (wk_list (ls_new (en_cut (ls_fr (ev_var rfl)) (eo_some ev_int) eo_none trivial)) trivial) (.same (.same (.same (.same (.non (.non .nil)))))) (fun _ => trivial) ?_ ?_)
    · clear hm
      intro G1 e1 x6 u5 sN hx hm D1 hD hnx
      refine ⟨_, _, tg_name, ?_⟩
      show Nx _ _ [some (dy text), some (dy t1), some (dy t3), some (dyA l4), some (dy x6), none] ((l4, cN (u5 : List (List (T2 Int Int)))) :: O)
      obtain ⟨t8, ht8, hm⟩ := bE hm
      obtain ⟨y13, hy13, hm⟩ := bE hm
      obtain ⟨checks14, hchecks14, hm⟩ := bE hm
      try dsimp only
      refine nx_push (xss0 := u5) 0 (ev_own rfl) rfl (en_mapO hy13 (wk_list (ls_fr (ev_call (ea_cons (ev_var rfl) (ea_cons (ev_tx "check" [99, 104, 101, 99, 107] (by decide +kernel) (by decide +kernel)) ea_nil)) ⟨_, _, _, rfl, ht8, rfl, rfl⟩)) trivial) (fun _ => trivial) (by
        intro pC x10 y hx hq
        obtain ⟨t12, ht12, hq⟩ := bE hq
        have hq := Option.some.inj hq
        subst hq
        exact ⟨_, _, tg_name, by decide, (ev_call (ea_cons (ev_var rfl) ea_nil) ⟨_, _, rfl, ht12, rfl, rfl⟩)⟩)) rfl hchecks14 ?_
      show Nx _ _ [some (dy text), some (dy t1), some (dy t3), some (dyA l4), some (dy x6), none] ((l4, cN (checks14 : List (List (T2 Int Int)))) :: O)
      cases (Option.some.inj hm)
      exact nx_sub (.same (.same (.same (.same (.non (.non .nil)))))) hnx
    · show Nx _ _ [some (dy text), some (dy t1), some (dy t3), some (dyA l4), none, none] ((l4, cN (u15 : List (List (T2 Int Int)))) :: O)
      obtain ⟨t16, ht16, hm⟩ := bE hm
      obtain ⟨t17, ht17, hm⟩ := bE hm
      try dsimp only
      refine nx_ret (ed_tup3 (ea_cons (ev_ix (ls_fr (ev_var rfl)) ev_int trivial ht16) (ea_cons (ev_ix (ls_fr (ev_var rfl)) ev_int trivial ht17) (ea_cons (ev_own rfl) ea_nil)))) (RtO.at (hret _ hm) [l4])

theorem ok_Lbag (z_abs : mg "abs" = none) {f : Addr} {fd : FuncData} (F : Fun K "_law_bag" "_law_bag" s_Lbag f fd) : FnOk P w K mg base CX0 1 f fd ["script"] (sp (S_Lbag K)) := by
  refine fn_ok F sc_Lbag (fun ds O r O' h => by obtain ⟨script, vr, rfl, _, rfl, rfl⟩ := h; rfl) (fun cdv A outer s H E hr => ⟨_, (pss_cons (ps_set (i := 1) sc_Lbag.nd rfl (by first | exact Or.inl rfl | exact Or.inr rfl) pe_int)
        (pss_cons (ps_for PassesOwn.never rfl (ki_list K rfl (pe_slice (kl_list K rfl) (pv 0) po_none (po_some pe_int))) (pg_name (i := 2) sc_Lbag.nd rfl (by first | exact Or.inl rfl | exact Or.inr rfl)) (pss_one (ps_set (i := 1) sc_Lbag.nd rfl (by first | exact Or.inl rfl | exact Or.inr rfl) (pe_op op_mod (pe_op op_add (pe_op op_add (pe_op op_mulX (pv 1) pe_int) (pe_op op_mod (pv 2) pe_int)) pe_int) pe_int))))
        (pss_one (ps_ret (pe_lst (pa_cons (pe_lc (own := [("cell", 2)]) (by rfl) sc_Lbag.nd (ki_list K rfl (pe_slice (kl_list K rfl) (pv 0) po_none (po_some pe_int))) (blkOk_by (N := ["script", "stir", "cell"]) (sc := defScope s_Lbag) (by decide +kernel)) (fun _ _ _ _ _ => (pg_name (i := 2) sc_Lbag.nd rfl (by first | exact Or.inl rfl | exact Or.inr rfl))) (fun _ _ _ _ _ => pts_nil) (fun _ _ _ _ _ => (pe_op op_mod (pe_callB call_abs (by rfl) z_abs (by decide +kernel) (pa_cons (pv 2) pa_nil)) (pe_op op_pow pe_int pe_int)))) (pa_cons pe_int (pa_cons pe_int (pa_cons (pv 1) (pa_cons pe_int pa_nil)))))))))), fun ds O r O' hS G0 Q hrt => ?_⟩)
  obtain ⟨script, vr, rfl, hm, rfl, rfl⟩ := hS
  have hret : ∀ x : Bag, some x = some vr → RtC G0 Q (cBag (x : Bag)) O := fun x e => by cases e; exact hrt
  clear hrt
  unfold m_Lbag_e242 at hm
  try dsimp only
  refine nx_seq (nx_asgD (i := 1) ev_int ?_)
  show Nx _ _ [some (dyS K script), some (dy (19 : Int)), none] (O)
  obtain ⟨u7, hu7, hm⟩ := bE hm
  try dsimp only
  refine nx_seq (nx_fold (τI := fun (u1 : (Int)) => [some (dyS K script), some (dy u1), none]) (OI := fun (u1 : (Int)) => (O)) hu7 (wk_list (ls_new (en_cutS (ev_var rfl) eo_none (eo_some ev_int))) trivial) (.same (.same (.non .nil))) (fun _ => trivial) ?_ ?_)
  · clear hm
    intro G1 e1 x2 u1 sN hx hm D1 hD hnx
    refine ⟨_, _, tg_name, ?_⟩
    show Nx _ _ [some (dyS K script), some (dy u1), some (dy x2)] (O)
    obtain ⟨t4, ht4, hm⟩ := bE hm
    obtain ⟨t5, ht5, hm⟩ := bE hm
    obtain ⟨t6, ht6, hm⟩ := bE hm
    try dsimp only
    refine nx_asgD (i := 1) (ev_mod (ev_add (ev_add (ev_mul (ev_var rfl) ev_int ht4) (ev_mod (ev_var rfl) ev_int ht5)) ev_int) ev_int ht6) ?_
    show Nx _ _ [some (dyS K script), some (dy t6), some (dy x2)] (O)
    cases (Option.some.inj hm)
    exact nx_sub (.same (.same (.non .nil))) hnx
  · show Nx _ _ [some (dyS K script), some (dy u7), none] (O)
    obtain ⟨y14, hy14, hm⟩ := bE hm
    try dsimp only
    refine nx_retC (ec_lstH (ea_cons (EvC.fr (en_mapO hy14 (wk_list (ls_new (en_cutS (ev_var rfl) eo_none (eo_some ev_int))) trivial) (fun _ => trivial) (by
      intro pC x10 y hx hq
      obtain ⟨t12, ht12, hq⟩ := bE hq
      obtain ⟨t13, ht13, hq⟩ := bE hq
      have hq := Option.some.inj hq
      subst hq
      exact ⟨_, _, tg_name, by decide, (ev_mod (ev_abs (ev_var rfl)) (ev_pow ev_int ev_int ht12) ht13)⟩))) (ea_cons ev_int (ea_cons ev_int (ea_cons (ev_var rfl) (ea_cons ev_int ea_nil))))) (by show 5 ≤ 1000000; decide)) (hret _ hm)

theorem ok_Lstirred (z_range : mg "range" = none) {f : Addr} {fd : FuncData} (F : Fun K "_law_stirred" "_law_stirred" s_Lstirred f fd) : FnOk P w K mg base CX0 1 f fd ["bag", "many"] (sp S_Lstirred) := by
  refine fn_ok F sc_Lstirred (fun ds O r O' h => by obtain ⟨B, bag, many, vr, bb, Or, rfl, rfl, _, rfl, rfl⟩ := h; rfl) (fun cdv A outer s H E hr => ⟨_, (pss_cons (ps_set (i := 2) sc_Lstirred.nd rfl (by first | exact Or.inl rfl | exact Or.inr rfl) pe_int)
        (pss_cons (ps_for PassesOwn.never rfl (pi_range1 (by rfl) z_range (pa_cons (pe_op op_add pe_int (pe_op op_fdivW (pe_bits (pv 1)) pe_int)) pa_nil)) (pg_name (i := 3) sc_Lstirred.nd rfl (by first | exact Or.inl rfl | exact Or.inr rfl)) (pss_cons (ps_asg (pe_op op_add (pe_ix (kx_list K rfl) (pv 0) pe_int (fun _ _ => rfl)) pe_int) (pg_sub (pv 0) pe_int set_list (fun _ => rfl)))
        (pss_cons (ps_asg (pe_op op_mod (pe_op op_add (pe_op op_add (pe_op op_add (pe_op op_pow (pe_ix (kx_list K rfl) (pv 0) pe_int (fun _ _ => rfl)) pe_int) (pe_op op_mulX pe_int (pe_ix (kx_list K rfl) (pv 0) pe_int (fun _ _ => rfl)))) (pe_op op_mulX pe_int (pe_ix (kx_list K rfl) (pv 0) pe_int (fun _ _ => rfl)))) pe_int) pe_int) (pg_sub (pv 0) pe_int set_list (fun _ => rfl)))
        (pss_one (ps_set (i := 2) sc_Lstirred.nd rfl (by first | exact Or.inl rfl | exact Or.inr rfl) (pe_op op_add (pe_op op_mulX (pv 2) pe_int) (pe_op op_fdivW (pe_ix (kx_list K rfl) (pv 0) pe_int (fun _ _ => rfl)) pe_int)))))))
        (pss_one (ps_ret (pe_op op_mod (pv 2) (pv 1)))))), fun ds O r O' hS G0 Q hrt => ?_⟩)
  obtain ⟨B, bag, many, vr, bb, Or, rfl, rfl, hm, rfl, rfl⟩ := hS
  have hret : ∀ (x : Int) (b : Bag), some (x, b) = some (vr, bb) → RtD G0 Q (dy x) ((B, cBag b) :: Or) := fun x b e => by cases e; exact hrt
  clear hrt
  unfold m_Lstirred_db2d at hm
  try dsimp only
  refine nx_seq (nx_asgD (i := 2) ev_int ?_)
  show Nx _ _ [some (dyA B), some (dy many), some (dy (0 : Int)), none] ((B, cBag bag) :: Or)
  obtain ⟨t1, ht1, hm⟩ := bE hm
  obtain ⟨t2, ht2, hm⟩ := bE hm
  obtain ⟨u15, hu15, hm⟩ := bE hm
  try dsimp only
  refine nx_seq (nx_fold (τI := fun (u3 : (Int × Bag)) => [some (dyA B), some (dy many), some (dy u3.1), none]) (OI := fun (u3 : (Int × Bag)) => ((B, cBag u3.2) :: Or)) hu15 (wk_rng1 (ev_add ev_int (ev_div (ev_bits (ev_var rfl)) ev_int ht1)) ht2) (.same (.same (.same (.non .nil)))) (fun _ => trivial) ?_ ?_)
  · clear hm
    intro G1 e1 x4 u3 sN hx hm D1 hD hnx
    refine ⟨_, _, tg_name, ?_⟩
    show Nx _ _ [some (dyA B), some (dy many), some (dy u3.1), some (dy x4)] ((B, cBag u3.2) :: Or)
    obtain ⟨bag6, hbag6, hm⟩ := bE hm
    try dsimp only
    refine nx_seq (nx_bag4 (k := 0) (b := u3.2) (Option.some.inj hbag6) (ev_add (ev_bag4 (k := 0) (b := u3.2) rfl rfl) ev_int) rfl rfl ?_)
    show Nx _ _ [some (dyA B), some (dy many), some (dy u3.1), some (dy x4)] ((B, cBag bag6) :: Or)
    obtain ⟨t7, ht7, hm⟩ := bE hm
    obtain ⟨t8, ht8, hm⟩ := bE hm
    obtain ⟨t9, ht9, hm⟩ := bE hm
    obtain ⟨t10, ht10, hm⟩ := bE hm
    obtain ⟨bag11, hbag11, hm⟩ := bE hm
    try dsimp only
    refine nx_seq (nx_bag3 (k := 0) (b := bag6) (Option.some.inj hbag11) (ev_mod (ev_add (ev_add (ev_add (ev_pow (ev_bag3 (k := 0) (b := bag6) rfl rfl) ev_int ht7) (ev_mul ev_int (ev_bag3 (k := 0) (b := bag6) rfl rfl) ht8)) (ev_mul ev_int (ev_bag4 (k := 0) (b := bag6) rfl rfl) ht9)) ev_int) ev_int ht10) rfl rfl ?_)
    show Nx _ _ [some (dyA B), some (dy many), some (dy u3.1), some (dy x4)] ((B, cBag bag11) :: Or)
    obtain ⟨t12, ht12, hm⟩ := bE hm
    obtain ⟨t13, ht13, hm⟩ := bE hm
    obtain ⟨found14, hfound14, hm⟩ := bE hm
    try dsimp only
    refine nx_asgD (i := 2) (ev_of (ev_add (ev_mul (ev_var rfl) ev_int ht12) (ev_div (ev_bag3 (k := 0) (b := bag11) rfl rfl) ev_int ht13)) (Option.some.inj hfound14)) ?_
    show Nx _ _ [some (dyA B), some (dy many), some (dy found14), some (dy x4)] ((B, cBag bag11) :: Or)
    cases (Option.some.inj hm)
    exact nx_sub (.same (.same (.same (.non .nil)))) hnx
  · show Nx _ _ [some (dyA B), some (dy many), some (dy u15.1), none] ((B, cBag u15.2) :: Or)
    obtain ⟨t16, ht16, hm⟩ := bE hm
    try dsimp only
    refine nx_ret (ev_mod (ev_var rfl) (ev_var rfl) ht16) (hret _ _ hm)

theorem ok_Ldraw (d_Lstirred : Def P w K mg base "_law_stirred" 1 ["bag", "many"] S_Lstirred) (z_len : mg "len" = none) {f : Addr} {fd : FuncData} (F : Fun K "_law_draw" "_law_draw" s_Ldraw f fd) : FnOk P w K mg base CX0 2 f fd ["bag", "many"] (sp S_Ldraw) := by
  obtain ⟨f_Lstirred, fd_Lstirred, G_Lstirred, g_Lstirred, k_Lstirred, b_Lstirred⟩ := d_Lstirred
  refine fn_ok F sc_Ldraw (fun ds O r O' h => by obtain ⟨B, bag, many, vr, bb, Or, rfl, rfl, _, rfl, rfl⟩ := h; rfl) (fun cdv A outer s H E hr => ⟨_, (pss_cons (ps_if (PW.pt (pw_and (pt_cmpR op_eq (pe_ix (kx_list K rfl) (pv 0) pe_int (fun _ _ => rfl)) pe_int (nomark _)) (pw_and1 (pt_cmpR op_lt (pe_ix (kx_list K rfl) (pv 0) pe_int (fun _ _ => rfl)) (pe_callB (kc_len K rfl) (by rfl) z_len (by decide +kernel) (pa_cons (pe_ix (kx_list K rfl) (pv 0) pe_int (fun _ _ => rfl)) pa_nil)) (nomark _))))) (pss_cons (ps_asg (pe_ix (kx_list K rfl) (pe_ix (kx_list K rfl) (pv 0) pe_int (fun _ _ => rfl)) (pe_ix (kx_list K rfl) (pv 0) pe_int (fun _ _ => rfl)) (fun _ _ => rfl)) (pg_sub (pv 0) pe_int set_list (fun _ => rfl)))
        (pss_one (ps_asg (pe_op op_add (pe_ix (kx_list K rfl) (pv 0) pe_int (fun _ _ => rfl)) pe_int) (pg_sub (pv 0) pe_int set_list (fun _ => rfl))))) (pss_one (ps_if (pt_cmpR op_eq (pe_ix (kx_list K rfl) (pv 0) pe_int (fun _ _ => rfl)) pe_int (nomark _)) (pss_one (ps_ret (pe_call G_Lstirred (hr.mono (by decide)) (by rfl) g_Lstirred k_Lstirred b_Lstirred .nil pass0 (pa_cons (pv 0) (pa_cons (pv 1) pa_nil))))) pss_nil)))
        (pss_cons (ps_set (i := 2) sc_Ldraw.nd rfl (by first | exact Or.inl rfl | exact Or.inr rfl) (pe_op op_mod (pe_ix (kx_list K rfl) (pv 0) pe_int (fun _ _ => rfl)) (pv 1)))
        (pss_cons (ps_asg (pe_op op_fdivW (pe_ix (kx_list K rfl) (pv 0) pe_int (fun _ _ => rfl)) (pv 1)) (pg_sub (pv 0) pe_int set_list (fun _ => rfl)))
        (pss_one (ps_ret (pv 2)))))), fun ds O r O' hS G0 Q hrt => ?_⟩)
  obtain ⟨B, bag, many, vr, bb, Or, rfl, rfl, hm, rfl, rfl⟩ := hS
  have hret : ∀ (x : Int) (b : Bag), some (x, b) = some (vr, bb) → RtD G0 Q (dy x) ((B, cBag b) :: Or) := fun x b e => by cases e; exact hrt
  clear hrt
  unfold m_Ldraw_f7ac at hm
  try dsimp only
  refine nx_seq (nx_if (et_andP (et_test (ev_eq (ev_bag2 (k := 0) (b := bag) rfl rfl) ev_int)) (et_test (ev_lt (ev_bag1 (k := 0) (b := bag) rfl rfl) (ev_len (ls_fr (ev_bag0 (k := 0) (b := bag) rfl rfl)) trivial)))) (fun hc => ?_) (fun hc => ?_))
  · have hm := iT hc hm
    obtain ⟨t1, ht1, hm⟩ := bE hm
    obtain ⟨bag2, hbag2, hm⟩ := bE hm
    try dsimp only
    refine nx_seq (nx_bag2 (k := 0) (b := bag) (Option.some.inj hbag2) (ev_ix (ls_fr (ev_bag0 (k := 0) (b := bag) rfl rfl)) (ev_bag1 (k := 0) (b := bag) rfl rfl) trivial ht1) rfl rfl ?_)
    show Nx _ _ [some (dyA B), some (dy many), none] ((B, cBag bag2) :: Or)
    obtain ⟨bag3, hbag3, hm⟩ := bE hm
    try dsimp only
    refine nx_bag1 (k := 0) (b := bag2) (Option.some.inj hbag3) (ev_add (ev_bag1 (k := 0) (b := bag2) rfl rfl) ev_int) rfl rfl ?_
    show Nx _ _ [some (dyA B), some (dy many), none] ((B, cBag bag3) :: Or)
    obtain ⟨t4, ht4, hm⟩ := bE hm
    try dsimp only
    refine nx_seq (nx_asgD (i := 2) (ev_mod (ev_bag2 (k := 0) (b := bag3) rfl rfl) (ev_var rfl) ht4) ?_)
    show Nx _ _ [some (dyA B), some (dy many), some (dy t4)] ((B, cBag bag3) :: Or)
    obtain ⟨t5, ht5, hm⟩ := bE hm
    obtain ⟨bag6, hbag6, hm⟩ := bE hm
    try dsimp only
    refine nx_seq (nx_bag2 (k := 0) (b := bag3) (Option.some.inj hbag6) (ev_div (ev_bag2 (k := 0) (b := bag3) rfl rfl) (ev_var rfl) ht5) rfl rfl ?_)
    show Nx _ _ [some (dyA B), some (dy many), some (dy t4)] ((B, cBag bag6) :: Or)
    try dsimp only
    refine nx_ret (ev_var rfl) (hret _ _ hm)
  · have hm := iF hc hm
    try dsimp only
    refine nx_if (et_test (ev_eq (ev_bag2 (k := 0) (b := bag) rfl rfl) ev_int)) (fun hc => ?_) (fun hc => ?_)
    · have hm := iT hc hm
      obtain ⟨r7, hr7, hm⟩ := bE hm
      try dsimp only
      refine nx_ret (ev_callK 0 (ea_cons (ev_own rfl) (ea_cons (ev_var rfl) ea_nil)) rfl ⟨_, _, _, _, _, _, rfl, rfl, hr7, rfl, rfl⟩) (hret _ _ hm)
    · have hm := iF hc hm
      refine nx_next ?_
      try dsimp only
      obtain ⟨t8, ht8, hm⟩ := bE hm
      try dsimp only
      refine nx_seq (nx_asgD (i := 2) (ev_mod (ev_bag2 (k := 0) (b := bag) rfl rfl) (ev_var rfl) ht8) ?_)
      show Nx _ _ [some (dyA B), some (dy many), some (dy t8)] ((B, cBag bag) :: Or)
      obtain ⟨t9, ht9, hm⟩ := bE hm
      obtain ⟨bag10, hbag10, hm⟩ := bE hm
      try dsimp only
      refine nx_seq (nx_bag2 (k := 0) (b := bag) (Option.some.inj hbag10) (ev_div (ev_bag2 (k := 0) (b := bag) rfl rfl) (ev_var rfl) ht9) rfl rfl ?_)
      show Nx _ _ [some (dyA B), some (dy many), some (dy t8)] ((B, cBag bag10) :: Or)
      try dsimp only
      refine nx_ret (ev_var rfl) (hret _ _ hm)

theorem ok_Lalike (z_all : mg "all" = none) (z_bool : mg "bool" = none) (z_int : mg "int" = none) (z_isinstance : mg "isinstance" = none) (z_len : mg "len" = none) (z_list : mg "list" = none) (z_range : mg "range" = none) (z_str : mg "str" = none) (z_tuple : mg "tuple" = none) {f : Addr} {fd : FuncData} (F : Fun K "_law_alike" "_law_alike" s_Lalike f fd) (g_ : mg "_law_alike" = some (.ref f)) (kp : PySem.W.keepIn K (.ref f) = true) (bd : Binds K fd ["found", "due"] []) : ∀ n : Nat, FnOk P w K mg base CX0 n f fd ["found", "due"] (sp (SA n))
  | 0 => fn_vac
  | n + 1 => by
    have G := ok_Lalike z_all z_bool z_int z_isinstance z_len z_list z_range z_str z_tuple F g_ kp bd n
    refine fn_ok F sc_Lalike (fun ds O r O' h => by obtain ⟨x, y, _, rfl, _, _⟩ := h; rfl) (fun cdv A outer s H E hr => ⟨_, (pss_cons (ps_if (pt_val (pe_callB (kc_isiT K rfl) (by rfl) z_isinstance (by decide +kernel) (pa_cons (pv 1) (pa_cons (pe_tup (pa_cons (pe_bltn (v := .ty "list") (by rfl) z_list (by decide +kernel) rfl) (pa_cons (pe_bltn (v := .ty "tuple") (by rfl) z_tuple (by decide +kernel) rfl) pa_nil))) pa_nil)))) (pss_cons (ps_if (PW.pt (pw_or (pt_not (pt_val (pe_callB (kc_isiT K rfl) (by rfl) z_isinstance (by decide +kernel) (pa_cons (pv 0) (pa_cons (pe_tup (pa_cons (pe_bltn (v := .ty "list") (by rfl) z_list (by decide +kernel) rfl) (pa_cons (pe_bltn (v := .ty "tuple") (by rfl) z_tuple (by decide +kernel) rfl) pa_nil))) pa_nil))))) (pw_or1 (pt_cmpR op_ne (pe_callB (kc_isi K rfl) (by rfl) z_isinstance (by decide +kernel) (pa_cons (pv 0) (pa_cons (pe_bltn (v := .ty "list") (by rfl) z_list (by decide +kernel) rfl) pa_nil))) (pe_callB (kc_isi K rfl) (by rfl) z_isinstance (by decide +kernel) (pa_cons (pv 1) (pa_cons (pe_bltn (v := .ty "list") (by rfl) z_list (by decide +kernel) rfl) pa_nil))) (nomark _))))) (pss_one (ps_ret pe_bl)) pss_nil)
      (pss_cons (ps_if (pt_cmpR op_ne (pe_callB (kc_len K rfl) (by rfl) z_len (by decide +kernel) (pa_cons (pv 0) pa_nil)) (pe_callB (kc_len K rfl) (by rfl) z_len (by decide +kernel) (pa_cons (pv 1) pa_nil)) (nomark _)) (pss_one (ps_ret pe_bl)) pss_nil)
      (pss_one (ps_ret (pe_callB (kc_all K rfl rfl) (by rfl) z_all (by decide +kernel) (pa_cons (pe_lc (own := [("k", 2)]) (by rfl) sc_Lalike.nd (pi_range1 (by rfl) z_range (pa_cons (pe_callB (kc_len K rfl) (by rfl) z_len (by decide +kernel) (pa_cons (pv 1) pa_nil)) pa_nil)) (blkOk_by (N := ["found", "due", "k"]) (sc := defScope s_Lalike) (by decide +kernel)) (fun _ _ _ _ _ => (pg_name (i := 2) sc_Lalike.nd rfl (by first | exact Or.inl rfl | exact Or.inr rfl))) (fun _ _ _ _ _ => pts_nil) (fun _ _ _ _ _ => (pe_call G (hr.mono (Nat.le_refl _)) (by rfl) g_ kp bd .nil pass0 (pa_cons (pe_ix (kx_seq K rfl) (pv 0) (pv 2) (fun _ _ => rfl)) (pa_cons (pe_ix (kx_seq K rfl) (pv 1) (pv 2) (fun _ _ => rfl)) pa_nil))))) pa_nil)))))) pss_nil)
      (pss_cons (ps_if (PW.pt (pw_or (pt_cmpR op_ne (pe_callB (kc_isi K rfl) (by rfl) z_isinstance (by decide +kernel) (pa_cons (pv 0) (pa_cons (pe_bltn (v := .ty "bool") (by rfl) z_bool (by decide +kernel) rfl) pa_nil))) (pe_callB (kc_isi K rfl) (by rfl) z_isinstance (by decide +kernel) (pa_cons (pv 1) (pa_cons (pe_bltn (v := .ty "bool") (by rfl) z_bool (by decide +kernel) rfl) pa_nil))) (nomark _)) (pw_or1 (pt_cmpR op_ne (pe_callB (kc_isi K rfl) (by rfl) z_isinstance (by decide +kernel) (pa_cons (pv 0) (pa_cons (pe_bltn (v := .ty "int") (by rfl) z_int (by decide +kernel) rfl) pa_nil))) (pe_callB (kc_isi K rfl) (by rfl) z_isinstance (by decide +kernel) (pa_cons (pv 1) (pa_cons (pe_bltn (v := .ty "int") (by rfl) z_int (by decide +kernel) rfl) pa_nil))) (nomark _))))) (pss_one (ps_ret pe_bl)) pss_nil)
      (pss_one (ps_ret (pe_and (pe_cmpR op_eq (pe_callB (kc_isi K rfl) (by rfl) z_isinstance (by decide +kernel) (pa_cons (pv 0) (pa_cons (pe_bltn (v := .ty "str") (by rfl) z_str (by decide +kernel) rfl) pa_nil))) (pe_callB (kc_isi K rfl) (by rfl) z_isinstance (by decide +kernel) (pa_cons (pv 1) (pa_cons (pe_bltn (v := .ty "str") (by rfl) z_str (by decide +kernel) rfl) pa_nil))) (nomark _)) (pe_one (pe_cmpR (ko_eqD K rfl hr.units) (pv 0) (pv 1) (nomark _)))))))), fun ds O r O' hS G0 Q hrt => ?_⟩)
    obtain ⟨x, y, hd, rfl, rfl, rfl⟩ := hS
    have hret : ∀ b : Bool, b = alikeN n x.d y.d → RtD G0 Q (dy b) O := fun b e => by rw [e]; exact hrt
    clear hrt
    show Nx _ _ [some (dy x), some (dy y), none] O
    try dsimp only
    refine nx_seq (nx_if (et_B (ev_isP2 (ev_var rfl))) (fun hc => ?_) (fun hc => ?_))
    · obtain ⟨m, rfl⟩ : ∃ m, n = m + 1 := by
        cases n with
        | zero =>
          have := depth_pos hc
          omega
        | succ m => exact ⟨m, rfl⟩
      have ha : alikeN (m + 1) x.d y.d = ((isSeqD x.d && (isListD x.d == isListD y.d)) && allZ (alikeN m) (itemsD x.d) (itemsD y.d)) := by
        unfold alikeN
        rw [hc]
        rfl
      try dsimp only
      refine nx_seq (nx_if (et_orP (et_not (et_B (ev_isP2 (ev_var rfl)))) (et_test (ev_ne (ev_isP (ev_var rfl) (kit_list _)) (ev_isP (ev_var rfl) (kit_list _))))) (fun h1 => ?_) (fun h1 => ?_))
      · try dsimp only
        refine nx_ret ev_bl (hret _ ?_)
        rw [ha]
        revert h1
        cases isSeqD x.d <;> cases isListD x.d <;> cases isListD y.d <;> simp
      · have h2 : isSeqD x.d = true ∧ isListD x.d = isListD y.d := by
          revert h1
          cases isSeqD x.d <;> cases isListD x.d <;> cases isListD y.d <;> simp
        refine nx_next ?_
        try dsimp only
        refine nx_seq (nx_if (et_test (ev_ne (ev_lenP (ev_var rfl) h2.1) (ev_lenP (ev_var rfl) hc))) (fun h3 => ?_) (fun h3 => ?_))
        · try dsimp only
          refine nx_ret ev_bl (hret _ ?_)
          have h4 : (itemsD x.d).length ≠ (itemsD y.d).length := fun e => by simp [e] at h3
          rw [ha, allZ_len h4, Bool.and_false]
        · have h4 : (itemsD x.d).length = (itemsD y.d).length := by
            have h5 : ((itemsD x.d).length : Int) = ((itemsD y.d).length : Int) := by simpa using h3
            omega
          refine nx_next ?_
          try dsimp only
          refine nx_fact (i := 1) (x := y) ((itemsD y.d).length ≤ 1000000) rfl (fun G v r => items_len r) fun hb => ?_
          refine nx_ret (ev_all (ls_new (en_mapO (mapO_some (fun i : Int => alikeN m ((itemsD x.d).getD i.toNat .none) ((itemsD y.d).getD i.toNat .none)) (rng 0 (itemsD y.d).length)) (wk_rng1 (ev_lenP (ev_var rfl) hc) (rngO_len hb)) (fun _ => trivial) (by
            intro pC i b hx hq
            cases hq
            have hi := mem_rng'.mp hx
            have e1 := getD_get (ds := itemsD x.d) (i := i.toNat) (by omega)
            have e2 := getD_get (ds := itemsD y.d) (i := i.toNat) (by omega)
            have hdi := depth_items e2
            exact ⟨_, _, tg_name, by decide, ev_call (S := SA (m + 1)) (ea_cons (ev_ixP (ev_var rfl) (ev_var rfl) hi.1 h2.1 e1) (ea_cons (ev_ixP (ev_var rfl) (ev_var rfl) hi.1 hc e2) ea_nil)) ⟨PD.mk _, PD.mk _, Nat.le_of_succ_le_succ (Nat.le_trans hdi hd), rfl, rfl, rfl⟩⟩))) trivial) (hret _ ?_)
          rw [ha, all_rng h4, h2.1, h2.2]
          simp
    · have ha : alikeN n x.d y.d = scalD x.d y.d := alike_scal hc
      refine nx_next ?_
      try dsimp only
      refine nx_seq (nx_if (et_orP (et_test (ev_ne (ev_isP (ev_var rfl) (kit_bool _)) (ev_isP (ev_var rfl) (kit_bool _)))) (et_test (ev_ne (ev_isP (ev_var rfl) (kit_int _)) (ev_isP (ev_var rfl) (kit_int _))))) (fun h1 => ?_) (fun h1 => ?_))
      · try dsimp only
        refine nx_ret ev_bl (hret _ ?_)
        rw [ha]
        unfold scalD
        revert h1
        cases isBoolD x.d <;> cases isBoolD y.d <;> cases isIntD x.d <;> cases isIntD y.d <;> simp
      · refine nx_next ?_
        try dsimp only
        refine nx_ret (ev_andVP (ev_eq (ev_isP (ev_var rfl) (kit_str _)) (ev_isP (ev_var rfl) (kit_str _))) (ev_eqP (ev_var rfl) (ev_var rfl))) (hret _ ?_)
        rw [ha]
        unfold scalD
        revert h1
        cases isBoolD x.d <;> cases isBoolD y.d <;> cases isIntD x.d <;> cases isIntD y.d <;> cases isStrD x.d <;> cases isStrD y.d <;> simp

theorem ok_Lprime_from (z_range : mg "range" = none) {f : Addr} {fd : FuncData} (F : Fun K "_law_prime_from" "_law_prime_from" s_Lprime_from f fd) : FnOk P w K mg base CX0 1 f fd ["number"] (sp S_Lprime_from) := by
  refine fn_ok F sc_Lprime_from (fun ds O r O' h => by obtain ⟨number, vr, rfl, _, rfl, rfl⟩ := h; rfl) (fun cdv A outer s H E hr => ⟨_, (pss_cons (ps_for PassesOwn.never rfl (pi_range2 (by rfl) z_range (pa_cons (pv 0) (pa_cons (pe_op op_add (pv 0) pe_int) pa_nil))) (pg_name (i := 1) sc_Lprime_from.nd rfl (by first | exact Or.inl rfl | exact Or.inr rfl)) (pss_one (ps_if (pt_cmpR (ko_eqD K rfl hr.units) (pe_lc (own := [("k", 2)]) (by rfl) sc_Lprime_from.nd (pi_range2 (by rfl) z_range (pa_cons pe_int (pa_cons pe_int pa_nil))) (blkOk_by (N := ["number", "found", "k"]) (sc := defScope s_Lprime_from) (by decide +kernel)) (fun _ _ _ _ _ => (pg_name (i := 2) sc_Lprime_from.nd rfl (by first | exact Or.inl rfl | exact Or.inr rfl))) (fun _ _ _ _ _ => (pts_one (PW.pt (pw_and (pt_cmpR op_le (pe_op op_mulX (pv 2) (pv 2)) (pv 1) (nomark _)) (pw_and1 (pt_cmpR op_eq (pe_op op_mod (pv 1) (pv 2)) pe_int (nomark _))))))) (fun _ _ _ _ _ => (pv 2))) (pe_lst pa_nil) (nomark _)) (pss_one (ps_ret (pv 1))) pss_nil)))
        (pss_one (ps_ret pe_int))), fun ds O r O' hS G0 Q hrt => ?_⟩)
  obtain ⟨number, vr, rfl, hm, rfl, rfl⟩ := hS
  have hret : ∀ x : Int, some x = some vr → RtD G0 Q (dy x) O := fun x e => by cases e; exact hrt
  clear hrt
  unfold m_Lprime_from_3e28 at hm
  obtain ⟨t1, ht1, hm⟩ := bE hm
  obtain ⟨fl18, hf19, hm⟩ := aE hm
  try dsimp only
  refine nx_seq (nx_for (τI := fun (u2 : (Unit)) => [some (dy number), none, none]) (OI := fun (u2 : (Unit)) => (O)) hf19 (wk_rng2 (ev_var rfl) (ev_add (ev_var rfl) ev_int) ht1) (.same (.non (.non .nil))) (fun _ => trivial) ?_ ?_)
  · intro G1 e1 x3 u2 fl1 hx hq D1 hD hnx h3
    have hret5 : ∀ x, some (Fl.ret (x)) = some fl1 → RtD G1 D1.rt (dy (x : Int)) O := fun x e => by
      have e2 := h3 _ (Option.some.inj e).symm
      have e3 := hm
      rw [e2] at e3
      rw [hD]
      exact (hret x e3).up e1
    clear hm h3
    have hm := hq
    clear hq
    refine ⟨_, _, tg_name, ?_⟩
    show Nx _ _ [some (dy number), some (dy x3), none] (O)
    obtain ⟨t7, ht7, hm⟩ := bE hm
    obtain ⟨y16, hy16, hm⟩ := bE hm
    try dsimp only
    refine nx_if (et_test (ev_eqD (ep_fr (EvC.fr (en_filO hy16 (wk_rng2 ev_int ev_int ht7) (fun _ => trivial) (by
      intro pC x11 o hx hq
      obtain ⟨t13, ht13, hq⟩ := bE hq
      obtain ⟨t15, ht15, hq⟩ := bE hq
      refine ⟨_, _, t15, _, tg_name, by decide, (et_and (et_test (ev_le (ev_mul (ev_var rfl) (ev_var rfl) ht13) (ev_var rfl))) (fun hc => (fun hq => by
        obtain ⟨t14, ht14, hq⟩ := bE hq
        exact et_of (et_test (ev_eq (ev_mod (ev_var rfl) (ev_var rfl) ht14) ev_int)) (Option.some.inj hq)) (iT hc ht15)) (fun hc => ⟨(Option.some.inj (iF hc ht15)).symm, rfl⟩)), fun hc => ?_, fun hc => ?_⟩
      · have hq := iT hc hq
        cases (Option.some.inj hq)
        exact ⟨_, rfl, (ev_var rfl)⟩
      · have hq := iF hc hq
        cases (Option.some.inj hq)
        exact ⟨rfl, rfl⟩)))) (ep_fr (EvC.fr (en_lst (xs := ([] : List Int)) ea_nil trivial (by show 0 ≤ 1000000; decide)))) trivial trivial)) (fun hc => ?_) (fun hc => ?_)
    · have hm := iT hc hm
      try dsimp only
      refine nx_ret (ev_var rfl) (hret5 _ hm)
    · have hm := iF hc hm
      refine nx_next ?_
      try dsimp only
      exact nx_sub (.same (.non (.non .nil))) (hnx _ (Option.some.inj hm).symm)
  · intro u17 hs
    subst hs
    show Nx _ _ [some (dy number), none, none] (O)
    have hm := aftN hm
    try dsimp only
    refine nx_ret ev_int (hret _ hm)

theorem ok_Lprime (d_Ldraw : Def P w K mg base "_law_draw" 2 ["bag", "many"] S_Ldraw) (d_Lprime_from : Def P w K mg base "_law_prime_from" 1 ["number"] S_Lprime_from) {f : Addr} {fd : FuncData} (F : Fun K "_law_prime" "_law_prime" s_Lprime f fd) : FnOk P w K mg base CX0 3 f fd ["bag"] (sp S_Lprime) := by
  obtain ⟨f_Ldraw, fd_Ldraw, G_Ldraw, g_Ldraw, k_Ldraw, b_Ldraw⟩ := d_Ldraw
  obtain ⟨f_Lprime_from, fd_Lprime_from, G_Lprime_from, g_Lprime_from, k_Lprime_from, b_Lprime_from⟩ := d_Lprime_from
  refine fn_ok F sc_Lprime (fun ds O r O' h => by obtain ⟨B, bag, vr, bb, Or, rfl, rfl, _, rfl, rfl⟩ := h; rfl) (fun cdv A outer s H E hr => ⟨_, (pss_cons (ps_set (i := 1) sc_Lprime.nd rfl (by first | exact Or.inl rfl | exact Or.inr rfl) (pe_lst (pa_cons pe_int (pa_cons pe_int (pa_cons pe_int (pa_cons pe_int (pa_cons pe_int (pa_cons pe_int (pa_cons pe_int (pa_cons pe_int (pa_cons pe_int (pa_cons pe_int (pa_cons pe_int (pa_cons pe_int (pa_cons pe_int (pa_cons pe_int pa_nil))))))))))))))))
        (pss_cons (ps_set (i := 1) sc_Lprime.nd rfl (by first | exact Or.inl rfl | exact Or.inr rfl) (pe_op op_cat (pv 1) (pe_lst (pa_cons (pe_op op_add (pe_op op_pow pe_int pe_int) pe_int) (pa_cons (pe_op op_sub (pe_op op_pow pe_int pe_int) pe_int) (pa_cons pe_int (pa_cons pe_int pa_nil)))))))
        (pss_cons (ps_set (i := 1) sc_Lprime.nd rfl (by first | exact Or.inl rfl | exact Or.inr rfl) (pe_op op_cat (pv 1) (pe_lst (pa_cons pe_int (pa_cons pe_int pa_nil)))))
        (pss_cons (ps_set (i := 2) sc_Lprime.nd rfl (by first | exact Or.inl rfl | exact Or.inr rfl) (pe_call G_Ldraw (hr.mono (by decide)) (by rfl) g_Ldraw k_Ldraw b_Ldraw .nil pass0 (pa_cons (pv 0) (pa_cons pe_int pa_nil))))
        (pss_one (ps_ret (pe_ifExp (pt_cmpR op_lt (pv 2) pe_int (nomark _)) (pe_ix (kx_list K rfl) (pv 1) (pv 2) (fun _ _ => rfl)) (pe_call G_Lprime_from (hr.mono (by decide)) (by rfl) g_Lprime_from k_Lprime_from b_Lprime_from .nil pass0 (pa_cons (pe_op op_add pe_int (pe_call G_Ldraw (hr.mono (by decide)) (by rfl) g_Ldraw k_Ldraw b_Ldraw .nil pass0 (pa_cons (pv 0) (pa_cons pe_int pa_nil)))) pa_nil))))))))), fun ds O r O' hS G0 Q hrt => ?_⟩)
  obtain ⟨B, bag, vr, bb, Or, rfl, rfl, hm, rfl, rfl⟩ := hS
  have hret : ∀ (x : Int) (b : Bag), some (x, b) = some (vr, bb) → RtD G0 Q (dy x) ((B, cBag b) :: Or) := fun x b e => by cases e; exact hrt
  clear hrt
  unfold m_Lprime_288d at hm
  obtain ⟨somev1, hsomev1, hm⟩ := bE hm
  try dsimp only
  refine nx_seq (nx_asgD (i := 1) (ev_of (EvC.fr (en_lst (xs := ([(2 : Int), (3 : Int), (5 : Int), (7 : Int), (2 : Int), (11 : Int), (101 : Int), (10007 : Int), (65537 : Int), (1000003 : Int), (998244353 : Int), (1000000007 : Int), (2147483647 : Int), (1000000000039 : Int)] : List Int)) (ea_cons ev_int (ea_cons ev_int (ea_cons ev_int (ea_cons ev_int (ea_cons ev_int (ea_cons ev_int (ea_cons ev_int (ea_cons ev_int (ea_cons ev_int (ea_cons ev_int (ea_cons ev_int (ea_cons ev_int (ea_cons ev_int (ea_cons ev_int ea_nil)))))))))))))) ⟨rfl, ⟨rfl, ⟨rfl, ⟨rfl, ⟨rfl, ⟨rfl, ⟨rfl, ⟨rfl, ⟨rfl, ⟨rfl, ⟨rfl, ⟨rfl, ⟨rfl, ⟨rfl, trivial⟩⟩⟩⟩⟩⟩⟩⟩⟩⟩⟩⟩⟩⟩ (by show 14 ≤ 1000000; decide))) (Option.some.inj hsomev1)) ?_)
  show Nx _ _ [some (dyA B), some (dy somev1), none] ((B, cBag bag) :: Or)
  obtain ⟨t2, ht2, hm⟩ := bE hm
  obtain ⟨t3, ht3, hm⟩ := bE hm
  obtain ⟨t4, ht4, hm⟩ := bE hm
  try dsimp only
  refine nx_seq (nx_asgD (i := 1) (EvC.fr (en_cat (ls_fr (ev_var rfl)) (ls_new (en_lst (xs := ([(t2 + (3 : Int)), (t3 - (17 : Int)), (2305843009213693951 : Int), (618970019642690137449562111 : Int)] : List Int)) (ea_cons (ev_add (ev_pow ev_int ev_int ht2) ev_int) (ea_cons (ev_sub (ev_pow ev_int ev_int ht3) ev_int) (ea_cons ev_int (ea_cons ev_int ea_nil)))) ⟨rfl, ⟨rfl, ⟨rfl, ⟨rfl, trivial⟩⟩⟩⟩ (by show 4 ≤ 1000000; decide))) trivial trivial ht4)) ?_)
  show Nx _ _ [some (dyA B), some (dy t4), none] ((B, cBag bag) :: Or)
  obtain ⟨t5, ht5, hm⟩ := bE hm
  try dsimp only
  refine nx_seq (nx_asgD (i := 1) (EvC.fr (en_cat (ls_fr (ev_var rfl)) (ls_new (en_lst (xs := ([(162259276829213363391578010288127 : Int), (170141183460469231731687303715884105727 : Int)] : List Int)) (ea_cons ev_int (ea_cons ev_int ea_nil)) ⟨rfl, ⟨rfl, trivial⟩⟩ (by show 2 ≤ 1000000; decide))) trivial trivial ht5)) ?_)
  show Nx _ _ [some (dyA B), some (dy t5), none] ((B, cBag bag) :: Or)
  obtain ⟨r6, hr6, hm⟩ := bE hm
  try dsimp only
  refine nx_seq (nx_asgD (i := 2) (ev_callK 0 (ea_cons (ev_own rfl) (ea_cons ev_int ea_nil)) rfl ⟨_, _, _, _, _, _, rfl, rfl, hr6, rfl, rfl⟩) ?_)
  show Nx _ _ [some (dyA B), some (dy t5), some (dy r6.1)] ((B, cBag r6.2) :: Or)
  obtain ⟨t10, ht10, hm⟩ := bE hm
  try dsimp only
  refine nx_ret (ev_if (d := dy (t10.1 : Int)) (O2 := ((B, cBag t10.2) :: Or)) (et_test (ev_lt (ev_var rfl) ev_int)) (fun hc => (fun hq => by
    obtain ⟨t7, ht7, hq⟩ := bE hq
    cases (Option.some.inj hq)
    exact (ev_ix (ls_fr (ev_var rfl)) (ev_var rfl) trivial ht7)) (iT hc ht10)) (fun hc => (fun hq => by
    obtain ⟨r8, hr8, hq⟩ := bE hq
    obtain ⟨t9, ht9, hq⟩ := bE hq
    cases (Option.some.inj hq)
    exact (ev_call (ea_cons (ev_add ev_int (ev_callK 0 (ea_cons (ev_own rfl) (ea_cons ev_int ea_nil)) rfl ⟨_, _, _, _, _, _, rfl, rfl, hr8, rfl, rfl⟩)) ea_nil) ⟨_, _, rfl, ht9, rfl, rfl⟩)) (iF hc ht10))) (hret _ _ hm)

theorem ok_Lnumber (d_Ldraw : Def P w K mg base "_law_draw" 2 ["bag", "many"] S_Ldraw) {f : Addr} {fd : FuncData} (F : Fun K "_law_number" "_law_number" s_Lnumber f fd) : FnOk P w K mg base CX0 3 f fd ["bag"] (sp S_Lnumber) := by
  obtain ⟨f_Ldraw, fd_Ldraw, G_Ldraw, g_Ldraw, k_Ldraw, b_Ldraw⟩ := d_Ldraw
  refine fn_ok F sc_Lnumber (fun ds O r O' h => by obtain ⟨B, bag, vr, bb, Or, rfl, rfl, _, rfl, rfl⟩ := h; rfl) (fun cdv A outer s H E hr => ⟨_, (pss_cons (ps_set (i := 1) sc_Lnumber.nd rfl (by first | exact Or.inl rfl | exact Or.inr rfl) (pe_call G_Ldraw (hr.mono (by decide)) (by rfl) g_Ldraw k_Ldraw b_Ldraw .nil pass0 (pa_cons (pv 0) (pa_cons pe_int pa_nil))))
        (pss_cons (ps_if (pt_cmpR op_lt (pv 1) pe_int (nomark _)) (pss_one (ps_ret (pe_op op_sub (pe_call G_Ldraw (hr.mono (by decide)) (by rfl) g_Ldraw k_Ldraw b_Ldraw .nil pass0 (pa_cons (pv 0) (pa_cons pe_int pa_nil))) pe_int))) pss_nil)
        (pss_one (ps_ret (pe_op op_mulX (pe_ix (kx_list K rfl) (pe_lst (pa_cons pe_int (pa_cons (pe_un un_neg pe_int) pa_nil))) (pe_call G_Ldraw (hr.mono (by decide)) (by rfl) g_Ldraw k_Ldraw b_Ldraw .nil pass0 (pa_cons (pv 0) (pa_cons pe_int pa_nil))) (fun _ _ => rfl)) (pe_call G_Ldraw (hr.mono (by decide)) (by rfl) g_Ldraw k_Ldraw b_Ldraw .nil pass0 (pa_cons (pv 0) (pa_cons (pe_ix (kx_list K rfl) (pe_lst (pa_cons (pe_op op_pow pe_int pe_int) (pa_cons pe_int pa_nil))) (pe_op op_sub (pv 1) pe_int) (fun _ _ => rfl)) pa_nil)))))))), fun ds O r O' hS G0 Q hrt => ?_⟩)
  obtain ⟨B, bag, vr, bb, Or, rfl, rfl, hm, rfl, rfl⟩ := hS
  have hret : ∀ (x : Int) (b : Bag), some (x, b) = some (vr, bb) → RtD G0 Q (dy x) ((B, cBag b) :: Or) := fun x b e => by cases e; exact hrt
  clear hrt
  unfold m_Lnumber_99ec at hm
  obtain ⟨r1, hr1, hm⟩ := bE hm
  try dsimp only
  refine nx_seq (nx_asgD (i := 1) (ev_callK 0 (ea_cons (ev_own rfl) (ea_cons ev_int ea_nil)) rfl ⟨_, _, _, _, _, _, rfl, rfl, hr1, rfl, rfl⟩) ?_)
  show Nx _ _ [some (dyA B), some (dy r1.1)] ((B, cBag r1.2) :: Or)
  try dsimp only
  refine nx_seq (nx_if (et_test (ev_lt (ev_var rfl) ev_int)) (fun hc => ?_) (fun hc => ?_))
  · have hm := iT hc hm
    obtain ⟨r2, hr2, hm⟩ := bE hm
    try dsimp only
    refine nx_ret (ev_sub (ev_callK 0 (ea_cons (ev_own rfl) (ea_cons ev_int ea_nil)) rfl ⟨_, _, _, _, _, _, rfl, rfl, hr2, rfl, rfl⟩) ev_int) (hret _ _ hm)
  · have hm := iF hc hm
    refine nx_next ?_
    try dsimp only
    obtain ⟨r3, hr3, hm⟩ := bE hm
    obtain ⟨t4, ht4, hm⟩ := bE hm
    obtain ⟨t5, ht5, hm⟩ := bE hm
    obtain ⟨t6, ht6, hm⟩ := bE hm
    obtain ⟨r7, hr7, hm⟩ := bE hm
    obtain ⟨t8, ht8, hm⟩ := bE hm
    try dsimp only
    refine nx_ret (ev_mul (ev_ix (ls_new (en_lst (xs := ([(1 : Int), (-(1 : Int))] : List Int)) (ea_cons ev_int (ea_cons (ev_neg ev_int) ea_nil)) ⟨rfl, ⟨rfl, trivial⟩⟩ (by show 2 ≤ 1000000; decide))) (ev_callK 0 (ea_cons (ev_own rfl) (ea_cons ev_int ea_nil)) rfl ⟨_, _, _, _, _, _, rfl, rfl, hr3, rfl, rfl⟩) trivial ht4) (ev_callK 0 (ea_cons (ev_own rfl) (ea_cons (ev_ix (ls_new (en_lst (xs := ([t5, (1000 : Int)] : List Int)) (ea_cons (ev_pow ev_int ev_int ht5) (ea_cons ev_int ea_nil)) ⟨rfl, ⟨rfl, trivial⟩⟩ (by show 2 ≤ 1000000; decide))) (ev_sub (ev_var rfl) ev_int) trivial ht6) ea_nil)) rfl ⟨_, _, _, _, _, _, rfl, rfl, hr7, rfl, rfl⟩) ht8) (hret _ _ hm)

theorem ok_Lany_net (d_Ldraw : Def P w K mg base "_law_draw" 2 ["bag", "many"] S_Ldraw) (d_Lprime : Def P w K mg base "_law_prime" 3 ["bag"] S_Lprime) (z_int : mg "int" = none) (z_range : mg "range" = none) (z_set : mg "set" = none) (z_sorted : mg "sorted" = none) {f : Addr} {fd : FuncData} (F : Fun K "_law_any_net" "_law_any_net" s_Lany_net f fd) : FnOk P w K mg base CX0 4 f fd ["bag"] (sp S_Lany_net) := by
  obtain ⟨f_Ldraw, fd_Ldraw, G_Ldraw, g_Ldraw, k_Ldraw, b_Ldraw⟩ := d_Ldraw
  obtain ⟨f_Lprime, fd_Lprime, G_Lprime, g_Lprime, k_Lprime, b_Lprime⟩ := d_Lprime
  refine fn_ok F sc_Lany_net (fun ds O r O' h => by obtain ⟨B, bag, vr, bb, Or, rfl, rfl, _, rfl, rfl⟩ := h; rfl) (fun cdv A outer s H E hr => ⟨_, (pss_cons (ps_set (i := 1) sc_Lany_net.nd rfl (by first | exact Or.inl rfl | exact Or.inr rfl) (pe_call G_Lprime (hr.mono (by decide)) (by rfl) g_Lprime k_Lprime b_Lprime .nil pass0 (pa_cons (pv 0) pa_nil)))
        (pss_cons (ps_set (i := 2) sc_Lany_net.nd rfl (by first | exact Or.inl rfl | exact Or.inr rfl) (pe_ix (kx_list K rfl) (pe_lst (pa_cons (pe_op op_add pe_int (pe_call G_Ldraw (hr.mono (by decide)) (by rfl) g_Ldraw k_Ldraw b_Ldraw .nil pass0 (pa_cons (pv 0) (pa_cons pe_int pa_nil)))) (pa_cons pe_int pa_nil))) (pe_op op_fdivW (pe_call G_Ldraw (hr.mono (by decide)) (by rfl) g_Ldraw k_Ldraw b_Ldraw .nil pass0 (pa_cons (pv 0) (pa_cons pe_int pa_nil))) pe_int) (fun _ _ => rfl)))
        (pss_cons (ps_set (i := 3) sc_Lany_net.nd rfl (by first | exact Or.inl rfl | exact Or.inr rfl) (pe_ix (kx_list K rfl) (pe_lst (pa_cons pe_int (pa_cons pe_int pa_nil))) (pe_op op_fdivW (pe_call G_Ldraw (hr.mono (by decide)) (by rfl) g_Ldraw k_Ldraw b_Ldraw .nil pass0 (pa_cons (pv 0) (pa_cons pe_int pa_nil))) pe_int) (fun _ _ => rfl)))
        (pss_cons (ps_set (i := 4) sc_Lany_net.nd rfl (by first | exact Or.inl rfl | exact Or.inr rfl) (pe_ix (kx_list K rfl) (pe_lst (pa_cons (pe_call G_Ldraw (hr.mono (by decide)) (by rfl) g_Ldraw k_Ldraw b_Ldraw .nil pass0 (pa_cons (pv 0) (pa_cons pe_int pa_nil))) (pa_cons pe_int pa_nil))) (pe_op op_mulX (pe_op op_fdivW (pe_call G_Ldraw (hr.mono (by decide)) (by rfl) g_Ldraw k_Ldraw b_Ldraw .nil pass0 (pa_cons (pv 0) (pa_cons pe_int pa_nil))) pe_int) (pe_callTy (T := "int") call_int1 (by rfl) z_int (by decide +kernel) (pa_cons (pe_cmpR op_eq (pv 3) pe_int (nomark _)) pa_nil))) (fun _ _ => rfl)))
        (pss_cons (ps_set (i := 5) sc_Lany_net.nd rfl (by first | exact Or.inl rfl | exact Or.inr rfl) (pe_lst pa_nil))
        (pss_cons (ps_for PassesOwn.never rfl (pi_range1 (by rfl) z_range (pa_cons (pv 4) pa_nil)) (pg_name (i := 6) sc_Lany_net.nd rfl (by first | exact Or.inl rfl | exact Or.inr rfl)) (pss_cons (ps_set (i := 7) sc_Lany_net.nd rfl (by first | exact Or.inl rfl | exact Or.inr rfl) (pe_callB (kc_sortedSet w rfl (by rfl)) (by rfl) z_sorted (by decide +kernel) (pa_cons (pe_callTy (T := "set") (kc_set K w rfl rfl (by rfl)) (by rfl) z_set (by decide +kernel) (pa_cons (pe_lc (own := [("k", 9)]) (by rfl) sc_Lany_net.nd (pi_range1 (by rfl) z_range (pa_cons (pe_op op_add pe_int (pe_call G_Ldraw (hr.mono (by decide)) (by rfl) g_Ldraw k_Ldraw b_Ldraw .nil pass0 (pa_cons (pv 0) (pa_cons (pv 3) pa_nil)))) pa_nil)) (blkOk_by (N := ["bag", "p", "n", "wide", "many", "checks", "c", "places", "place", "k"]) (sc := defScope s_Lany_net) (by decide +kernel)) (fun _ _ _ _ _ => (pg_name (i := 9) sc_Lany_net.nd rfl (by first | exact Or.inl rfl | exact Or.inr rfl))) (fun _ _ _ _ _ => pts_nil) (fun _ _ _ _ _ => (pe_call G_Ldraw (hr.mono (by decide)) (by rfl) g_Ldraw k_Ldraw b_Ldraw .nil pass0 (pa_cons (pv 0) (pa_cons (pv 2) pa_nil))))) pa_nil)) pa_nil)))
        (pss_one (ps_expr (pe_bm PySem.F.plainAttrs_list PySem.F.slot_list_append PySem.F.type_list_append mt_append (pv 5) (pa_cons (pe_lc (own := [("place", 8)]) (by rfl) sc_Lany_net.nd (ki_list K rfl (pv 7)) (blkOk_by (N := ["bag", "p", "n", "wide", "many", "checks", "c", "places", "place", "k"]) (sc := defScope s_Lany_net) (by decide +kernel)) (fun _ _ _ _ _ => (pg_name (i := 8) sc_Lany_net.nd rfl (by first | exact Or.inl rfl | exact Or.inr rfl))) (fun _ _ _ _ _ => pts_nil) (fun _ _ _ _ _ => (pe_tup (pa_cons (pv 8) (pa_cons (pe_op op_add pe_int (pe_call G_Ldraw (hr.mono (by decide)) (by rfl) g_Ldraw k_Ldraw b_Ldraw .nil pass0 (pa_cons (pv 0) (pa_cons (pe_op op_sub (pv 1) pe_int) pa_nil)))) pa_nil))))) pa_nil))))))
        (pss_one (ps_ret (pe_tup (pa_cons (pv 1) (pa_cons (pv 2) (pa_cons (pv 5) pa_nil)))))))))))), fun ds O r O' hS G0 Q hrt => ?_⟩)
  obtain ⟨B, bag, vr, bb, Or, rfl, rfl, hm, rfl, rfl⟩ := hS
  have hret : ∀ (x : T3 Int Int (List (List (T2 Int Int)))) (b : Bag), some (x, b) = some (vr, bb) → RtD G0 Q (dy x) ((B, cBag b) :: Or) := fun x b e => by cases e; exact hrt
  clear hrt
  unfold m_Lany_net_80a2 at hm
  obtain ⟨r1, hr1, hm⟩ := bE hm
  try dsimp only
  refine nx_seq (nx_asgD (i := 1) (ev_callK 0 (ea_cons (ev_own rfl) ea_nil) rfl ⟨_, _, _, _, _, rfl, rfl, hr1, rfl, rfl⟩) ?_)
  show Nx _ _ [some (dyA B), some (dy r1.1), none, none, none, none, none, none, none, none] ((B, cBag r1.2) :: Or)
  obtain ⟨r2, hr2, hm⟩ := bE hm
  obtain ⟨r3, hr3, hm⟩ := bE hm
  obtain ⟨t4, ht4, hm⟩ := bE hm
  obtain ⟨t5, ht5, hm⟩ := bE hm
  try dsimp only
  refine nx_seq (nx_asgD (i := 2) (ev_ix (ls_new (en_lst (xs := ([((1 : Int) + r2.1), (400 : Int)] : List Int)) (ea_cons (ev_add ev_int (ev_callK 0 (ea_cons (ev_own rfl) (ea_cons ev_int ea_nil)) rfl ⟨_, _, _, _, _, _, rfl, rfl, hr2, rfl, rfl⟩)) (ea_cons ev_int ea_nil)) ⟨rfl, ⟨rfl, trivial⟩⟩ (by show 2 ≤ 1000000; decide))) (ev_div (ev_callK 0 (ea_cons (ev_own rfl) (ea_cons ev_int ea_nil)) rfl ⟨_, _, _, _, _, _, rfl, rfl, hr3, rfl, rfl⟩) ev_int ht4) trivial ht5) ?_)
  show Nx _ _ [some (dyA B), some (dy r1.1), some (dy t5), none, none, none, none, none, none, none] ((B, cBag r3.2) :: Or)
  obtain ⟨r6, hr6, hm⟩ := bE hm
  obtain ⟨t7, ht7, hm⟩ := bE hm
  obtain ⟨t8, ht8, hm⟩ := bE hm
  try dsimp only
  refine nx_seq (nx_asgD (i := 3) (ev_ix (ls_new (en_lst (xs := ([(5 : Int), (240 : Int)] : List Int)) (ea_cons ev_int (ea_cons ev_int ea_nil)) ⟨rfl, ⟨rfl, trivial⟩⟩ (by show 2 ≤ 1000000; decide))) (ev_div (ev_callK 0 (ea_cons (ev_own rfl) (ea_cons ev_int ea_nil)) rfl ⟨_, _, _, _, _, _, rfl, rfl, hr6, rfl, rfl⟩) ev_int ht7) trivial ht8) ?_)
  show Nx _ _ [some (dyA B), some (dy r1.1), some (dy t5), some (dy t8), none, none, none, none, none, none] ((B, cBag r6.2) :: Or)
  obtain ⟨r9, hr9, hm⟩ := bE hm
  obtain ⟨r10, hr10, hm⟩ := bE hm
  obtain ⟨t11, ht11, hm⟩ := bE hm
  obtain ⟨t12, ht12, hm⟩ := bE hm
  obtain ⟨t13, ht13, hm⟩ := bE hm
  try dsimp only
  refine nx_seq (nx_asgD (i := 4) (ev_ix (ls_new (en_lst (xs := ([r9.1, (400 : Int)] : List Int)) (ea_cons (ev_callK 0 (ea_cons (ev_own rfl) (ea_cons ev_int ea_nil)) rfl ⟨_, _, _, _, _, _, rfl, rfl, hr9, rfl, rfl⟩) (ea_cons ev_int ea_nil)) ⟨rfl, ⟨rfl, trivial⟩⟩ (by show 2 ≤ 1000000; decide))) (ev_mul (ev_div (ev_callK 0 (ea_cons (ev_own rfl) (ea_cons ev_int ea_nil)) rfl ⟨_, _, _, _, _, _, rfl, rfl, hr10, rfl, rfl⟩) ev_int ht11) (ev_intB (ev_eq (ev_var rfl) ev_int)) ht12) trivial ht13) ?_)
  show Nx _ _ [some (dyA B), some (dy r1.1), some (dy t5), some (dy t8), some (dy t13), none, none, none, none, none] ((B, cBag r10.2) :: Or)
  try dsimp only
  refine nx_seq (nx_asgC (i := 5) (en_lst (xs := ([] : List (List (T2 Int Int)))) ea_nil trivial (by show 0 ≤ 1000000; decide)) (fun l14 => ?_))
  -- checks
  obtain ⟨t15, ht15, hm⟩ := bE hm
  obtain ⟨u33, hu33, hm⟩ := bE hm
  try dsimp only
  refine nx_seq (nx_fold (τI := fun (u16 : (Bag × (List (List (T2 Int Int))))) => [some (dyA B), some (dy r1.1), some (dy t5), some (dy t8), some (dy t13), some (dyA l14), none, none, none, none]) (OI := fun (u16 : (Bag × (List (List (T2 Int Int))))) => ((l14, cL (u16.2 : List (List (T2 Int Int)))) :: (B, cBag u16.1) :: Or)) hu33 (wk_rng1 (ev_var rfl) ht15) (.same (.same (.same (.same (.same (.same (.non (.non (.non (.non .nil)))))))))) (fun _ => trivial) ?_ ?_)
  · clear hm
    intro G1 e1 x17 u16 sN hx hm D1 hD hnx
    refine ⟨_, _, tg_name, ?_⟩
    show Nx _ _ [some (dyA B), some (dy r1.1), some (dy t5), some (dy t8), some (dy t13), some (dyA l14), some (dy x17), none, none, none] ((l14, cL (u16.2 : List (List (T2 Int Int)))) :: (B, cBag u16.1) :: Or)
    obtain ⟨r19, hr19, hm⟩ := bE hm
    obtain ⟨t20, ht20, hm⟩ := bE hm
    obtain ⟨y25, hy25, hm⟩ := bE hm
    obtain ⟨t26, ht26, hm⟩ := bE hm
    try dsimp only
    refine nx_seq (nx_asgD (i := 7) (EvC.fr (en_sset (ls_new (en_mapS (OI := fun (b23 : Bag) => ((l14, cL (u16.2 : List (List (T2 Int Int)))) :: (B, cBag b23) :: Or)) hy25 (wk_rng1 (ev_add ev_int (ev_callK 1 (ea_cons (ev_own rfl) (ea_cons (ev_var rfl) ea_nil)) rfl ⟨_, _, _, _, _, _, rfl, rfl, hr19, rfl, rfl⟩)) ht20) (fun _ _ => trivial) (by
      intro pC x22 b23 y bs hx hq
      obtain ⟨r24, hr24, hq⟩ := bE hq
      cases (Option.some.inj hq)
      exact ⟨_, _, tg_name, by decide, (ev_callK 2 (ea_cons (ev_own rfl) (ea_cons (ev_var rfl) ea_nil)) rfl ⟨_, _, _, _, _, _, rfl, rfl, hr24, rfl, rfl⟩)⟩))) trivial ht26)) ?_)
    show Nx _ _ [some (dyA B), some (dy r1.1), some (dy t5), some (dy t8), some (dy t13), some (dyA l14), some (dy x17), some (dy t26), none, none] ((l14, cL (u16.2 : List (List (T2 Int Int)))) :: (B, cBag y25.2) :: Or)
    obtain ⟨y31, hy31, hm⟩ := bE hm
    obtain ⟨checks32, hchecks32, hm⟩ := bE hm
    try dsimp only
    refine nx_appP (xs0 := u16.2) 0 (ev_own rfl) rfl (EvC.fr (en_mapS (OI := fun (b29 : Bag) => ((l14, cL (u16.2 : List (List (T2 Int Int)))) :: (B, cBag b29) :: Or)) hy31 (wk_list (ls_fr (ev_var rfl)) trivial) (fun _ _ => trivial) (by
      intro pC x28 b29 y bs hx hq
      obtain ⟨r30, hr30, hq⟩ := bE hq
      cases (Option.some.inj hq)
      exact ⟨_, _, tg_name, by decide, (ev_tup2 (ea_cons (ev_var rfl) (ea_cons (ev_add ev_int (ev_callK 2 (ea_cons (ev_own rfl) (ea_cons (ev_sub (ev_var rfl) ev_int) ea_nil)) rfl ⟨_, _, _, _, _, _, rfl, rfl, hr30, rfl, rfl⟩)) ea_nil)))⟩))) rfl hchecks32 ?_
    show Nx _ _ [some (dyA B), some (dy r1.1), some (dy t5), some (dy t8), some (dy t13), some (dyA l14), some (dy x17), some (dy t26), none, none] ((l14, cL (checks32 : List (List (T2 Int Int)))) :: (B, cBag y31.2) :: Or)
    cases (Option.some.inj hm)
    exact nx_sub (.same (.same (.same (.same (.same (.same (.non (.non (.non (.non .nil)))))))))) hnx
  · show Nx _ _ [some (dyA B), some (dy r1.1), some (dy t5), some (dy t8), some (dy t13), some (dyA l14), none, none, none, none] ((l14, cL (u33.2 : List (List (T2 Int Int)))) :: (B, cBag u33.1) :: Or)
    refine nx_freeze (i := 5) (k := 0) rfl rfl ?_
    show Nx _ _ [some (dyA B), some (dy r1.1), some (dy t5), some (dy t8), some (dy t13), some (dy u33.2), none, none, none, none] ((B, cBag u33.1) :: Or)
    try dsimp only
    refine nx_ret (ev_tup3 (ea_cons (ev_var rfl) (ea_cons (ev_var rfl) (ea_cons (ev_var rfl) ea_nil)))) (hret _ _ hm)

theorem ok_Lwild_net (d_Ldraw : Def P w K mg base "_law_draw" 2 ["bag", "many"] S_Ldraw) (d_Lnumber : Def P w K mg base "_law_number" 3 ["bag"] S_Lnumber) (z_range : mg "range" = none) {f : Addr} {fd : FuncData} (F : Fun K "_law_wild_net" "_law_wild_net" s_Lwild_net f fd) : FnOk P w K mg base CX0 4 f fd ["bag"] (sp S_Lwild_net) := by
  obtain ⟨f_Ldraw, fd_Ldraw, G_Ldraw, g_Ldraw, k_Ldraw, b_Ldraw⟩ := d_Ldraw
  obtain ⟨f_Lnumber, fd_Lnumber, G_Lnumber, g_Lnumber, k_Lnumber, b_Lnumber⟩ := d_Lnumber
  refine fn_ok F sc_Lwild_net (fun ds O r O' h => by obtain ⟨B, bag, vr, bb, Or, rfl, rfl, _, rfl, rfl⟩ := h; rfl) (fun cdv A outer s H E hr => ⟨_, (pss_cons (ps_set (i := 1) sc_Lwild_net.nd rfl (by first | exact Or.inl rfl | exact Or.inr rfl) (pe_lst pa_nil))
        (pss_cons (ps_for PassesOwn.never rfl (pi_range1 (by rfl) z_range (pa_cons (pe_call G_Ldraw (hr.mono (by decide)) (by rfl) g_Ldraw k_Ldraw b_Ldraw .nil pass0 (pa_cons (pv 0) (pa_cons pe_int pa_nil))) pa_nil)) (pg_name (i := 2) sc_Lwild_net.nd rfl (by first | exact Or.inl rfl | exact Or.inr rfl)) (pss_one (ps_expr (pe_bm PySem.F.plainAttrs_list PySem.F.slot_list_append PySem.F.type_list_append mt_append (pv 1) (pa_cons (pe_lc (own := [("k", 3)]) (by rfl) sc_Lwild_net.nd (pi_range1 (by rfl) z_range (pa_cons (pe_call G_Ldraw (hr.mono (by decide)) (by rfl) g_Ldraw k_Ldraw b_Ldraw .nil pass0 (pa_cons (pv 0) (pa_cons pe_int pa_nil))) pa_nil)) (blkOk_by (N := ["bag", "checks", "c", "k"]) (sc := defScope s_Lwild_net) (by decide +kernel)) (fun _ _ _ _ _ => (pg_name (i := 3) sc_Lwild_net.nd rfl (by first | exact Or.inl rfl | exact Or.inr rfl))) (fun _ _ _ _ _ => pts_nil) (fun _ _ _ _ _ => (pe_tup (pa_cons (pe_call G_Lnumber (hr.mono (by decide)) (by rfl) g_Lnumber k_Lnumber b_Lnumber .nil pass0 (pa_cons (pv 0) pa_nil)) (pa_cons (pe_call G_Lnumber (hr.mono (by decide)) (by rfl) g_Lnumber k_Lnumber b_Lnumber .nil pass0 (pa_cons (pv 0) pa_nil)) pa_nil))))) pa_nil)))))
        (pss_one (ps_ret (pe_tup (pa_cons (pe_call G_Lnumber (hr.mono (by decide)) (by rfl) g_Lnumber k_Lnumber b_Lnumber .nil pass0 (pa_cons (pv 0) pa_nil)) (pa_cons (pe_call G_Lnumber (hr.mono (by decide)) (by rfl) g_Lnumber k_Lnumber b_Lnumber .nil pass0 (pa_cons (pv 0) pa_nil)) (pa_cons (pv 1) pa_nil)))))))), fun ds O r O' hS G0 Q hrt => ?_⟩)
  obtain ⟨B, bag, vr, bb, Or, rfl, rfl, hm, rfl, rfl⟩ := hS
  have hret : ∀ (x : T3 Int Int (List (List (T2 Int Int)))) (b : Bag), some (x, b) = some (vr, bb) → RtD G0 Q (dy x) ((B, cBag b) :: Or) := fun x b e => by cases e; exact hrt
  clear hrt
  unfold m_Lwild_net_d90d at hm
  try dsimp only
  refine nx_seq (nx_asgC (i := 1) (en_lst (xs := ([] : List (List (T2 Int Int)))) ea_nil trivial (by show 0 ≤ 1000000; decide)) (fun l1 => ?_))
  -- checks
  obtain ⟨r2, hr2, hm⟩ := bE hm
  obtain ⟨t3, ht3, hm⟩ := bE hm
  obtain ⟨u17, hu17, hm⟩ := bE hm
  try dsimp only
  refine nx_seq (nx_fold (τI := fun (u4 : (Bag × (List (List (T2 Int Int))))) => [some (dyA B), some (dyA l1), none, none]) (OI := fun (u4 : (Bag × (List (List (T2 Int Int))))) => ((l1, cL (u4.2 : List (List (T2 Int Int)))) :: (B, cBag u4.1) :: Or)) hu17 (wk_rng1 (ev_callK 1 (ea_cons (ev_own rfl) (ea_cons ev_int ea_nil)) rfl ⟨_, _, _, _, _, _, rfl, rfl, hr2, rfl, rfl⟩) ht3) (.same (.same (.non (.non .nil)))) (fun _ => trivial) ?_ ?_)
  · clear hm
    intro G1 e1 x5 u4 sN hx hm D1 hD hnx
    refine ⟨_, _, tg_name, ?_⟩
    show Nx _ _ [some (dyA B), some (dyA l1), some (dy x5), none] ((l1, cL (u4.2 : List (List (T2 Int Int)))) :: (B, cBag u4.1) :: Or)
    obtain ⟨r7, hr7, hm⟩ := bE hm
    obtain ⟨t8, ht8, hm⟩ := bE hm
    obtain ⟨y15, hy15, hm⟩ := bE hm
    obtain ⟨checks16, hchecks16, hm⟩ := bE hm
    try dsimp only
    refine nx_appP (xs0 := u4.2) 0 (ev_own rfl) rfl (EvC.fr (en_mapS (OI := fun (b12 : Bag) => ((l1, cL (u4.2 : List (List (T2 Int Int)))) :: (B, cBag b12) :: Or)) hy15 (wk_rng1 (ev_callK 1 (ea_cons (ev_own rfl) (ea_cons ev_int ea_nil)) rfl ⟨_, _, _, _, _, _, rfl, rfl, hr7, rfl, rfl⟩) ht8) (fun _ _ => trivial) (by
      intro pC x11 b12 y bs hx hq
      obtain ⟨r13, hr13, hq⟩ := bE hq
      obtain ⟨r14, hr14, hq⟩ := bE hq
      cases (Option.some.inj hq)
      exact ⟨_, _, tg_name, by decide, (ev_tup2 (ea_cons (ev_callK 2 (ea_cons (ev_own rfl) ea_nil) rfl ⟨_, _, _, _, _, rfl, rfl, hr13, rfl, rfl⟩) (ea_cons (ev_callK 2 (ea_cons (ev_own rfl) ea_nil) rfl ⟨_, _, _, _, _, rfl, rfl, hr14, rfl, rfl⟩) ea_nil)))⟩))) rfl hchecks16 ?_
    show Nx _ _ [some (dyA B), some (dyA l1), some (dy x5), none] ((l1, cL (checks16 : List (List (T2 Int Int)))) :: (B, cBag y15.2) :: Or)
    cases (Option.some.inj hm)
    exact nx_sub (.same (.same (.non (.non .nil)))) hnx
  · show Nx _ _ [some (dyA B), some (dyA l1), none, none] ((l1, cL (u17.2 : List (List (T2 Int Int)))) :: (B, cBag u17.1) :: Or)
    refine nx_freeze (i := 1) (k := 0) rfl rfl ?_
    show Nx _ _ [some (dyA B), some (dy u17.2), none, none] ((B, cBag u17.1) :: Or)
    obtain ⟨r18, hr18, hm⟩ := bE hm
    obtain ⟨r19, hr19, hm⟩ := bE hm
    try dsimp only
    refine nx_ret (ev_tup3 (ea_cons (ev_callK 0 (ea_cons (ev_own rfl) ea_nil) rfl ⟨_, _, _, _, _, rfl, rfl, hr18, rfl, rfl⟩) (ea_cons (ev_callK 0 (ea_cons (ev_own rfl) ea_nil) rfl ⟨_, _, _, _, _, rfl, rfl, hr19, rfl, rfl⟩) (ea_cons (ev_var rfl) ea_nil)))) (hret _ _ hm)

theorem ok_Lwritten (z_str : mg "str" = none) {f : Addr} {fd : FuncData} (F : Fun K "_law_written" "_law_written" s_Lwritten f fd) : FnOk P w K mg base CX0 1 f fd ["net"] (sp S_Lwritten) := by
  refine fn_ok F sc_Lwritten (fun ds O r O' h => by obtain ⟨net, vr, rfl, _, rfl, rfl⟩ := h; rfl) (fun cdv A outer s H E hr => ⟨_, (pss_cons (ps_set (i := 1) sc_Lwritten.nd rfl (by first | exact Or.inl rfl | exact Or.inr rfl) (pe_op ko_catX (pe_op ko_catX (pe_op ko_catX pe_str (pe_callTy (T := "str") kc_strX (by rfl) z_str (by decide +kernel) (pa_cons (pe_ix (kx_tup K rfl) (pv 0) pe_int (fun _ _ => rfl)) pa_nil))) pe_str) (pe_callTy (T := "str") kc_strX (by rfl) z_str (by decide +kernel) (pa_cons (pe_ix (kx_tup K rfl) (pv 0) pe_int (fun _ _ => rfl)) pa_nil))))
        (pss_cons (ps_for PassesOwn.never rfl (ki_list K rfl (pe_ix (kx_tup K rfl) (pv 0) pe_int (fun _ _ => rfl))) (pg_name (i := 2) sc_Lwritten.nd rfl (by first | exact Or.inl rfl | exact Or.inr rfl)) (pss_one (ps_set (i := 1) sc_Lwritten.nd rfl (by first | exact Or.inl rfl | exact Or.inr rfl) (pe_op ko_catX (pe_op ko_catX (pv 1) pe_str) (pe_joinX K rfl pe_str (pe_lc (own := [("place", 3), ("factor", 4)]) (by rfl) sc_Lwritten.nd (ki_list K rfl (pv 2)) (blkOk_by (N := ["net", "text", "pairs", "place", "factor"]) (sc := defScope s_Lwritten) (by decide +kernel)) (fun _ _ _ _ _ => (kg_tup K (n := 2) rfl rfl (pgs_cons (pg_name (i := 3) sc_Lwritten.nd rfl (by first | exact Or.inl rfl | exact Or.inr rfl)) (pgs_cons (pg_name (i := 4) sc_Lwritten.nd rfl (by first | exact Or.inl rfl | exact Or.inr rfl)) pgs_nil)))) (fun _ _ _ _ _ => pts_nil) (fun _ _ _ _ _ => (pe_op ko_catX (pe_op ko_catX (pe_op ko_catX pe_str (pe_callTy (T := "str") kc_strX (by rfl) z_str (by decide +kernel) (pa_cons (pv 3) pa_nil))) pe_str) (pe_callTy (T := "str") kc_strX (by rfl) z_str (by decide +kernel) (pa_cons (pv 4) pa_nil))))))))))
        (pss_one (ps_ret (pv 1))))), fun ds O r O' hS G0 Q hrt => ?_⟩)
  obtain ⟨net, vr, rfl, hm, rfl, rfl⟩ := hS
  have hret : ∀ x : Tx, some x = some vr → RtD G0 Q (dy x) O := fun x e => by cases e; exact hrt
  clear hrt
  unfold m_Lwritten_9474 at hm
  obtain ⟨t1, ht1, hm⟩ := bE hm
  obtain ⟨t2, ht2, hm⟩ := bE hm
  obtain ⟨t3, ht3, hm⟩ := bE hm
  obtain ⟨t4, ht4, hm⟩ := bE hm
  obtain ⟨t5, ht5, hm⟩ := bE hm
  try dsimp only
  refine nx_seq (nx_asgD (i := 1) (ev_catX (ev_catX (ev_catX (ev_tx "net " [110, 101, 116, 32] (by decide +kernel) (by decide +kernel)) (ev_strX (ev_t30 (ev_var rfl)) ht1) ht2) (ev_tx " " [32] (by decide +kernel) (by decide +kernel)) ht3) (ev_strX (ev_t31 (ev_var rfl)) ht4) ht5) ?_)
  show Nx _ _ [some (dy net), some (dy t5), none, none, none] (O)
  obtain ⟨u25, hu25, hm⟩ := bE hm
  try dsimp only
  refine nx_seq (nx_fold (τI := fun (u6 : (Tx)) => [some (dy net), some (dy u6), none, none, none]) (OI := fun (u6 : (Tx)) => (O)) hu25 (wk_list (ls_fr (ev_t32 (ev_var rfl))) trivial) (.same (.same (.non (.non (.non .nil))))) (fun _ => trivial) ?_ ?_)
  · clear hm
    intro G1 e1 x7 u6 sN hx hm D1 hD hnx
    refine ⟨_, _, tg_name, ?_⟩
    show Nx _ _ [some (dy net), some (dy u6), some (dy x7), none, none] (O)
    obtain ⟨t9, ht9, hm⟩ := bE hm
    obtain ⟨y22, hy22, hm⟩ := bE hm
    obtain ⟨t23, ht23, hm⟩ := bE hm
    obtain ⟨t24, ht24, hm⟩ := bE hm
    try dsimp only
    refine nx_asgD (i := 1) (ev_catX (ev_catX (ev_var rfl) (ev_tx "\x0acheck" [10, 99, 104, 101, 99, 107] (by decide +kernel) (by decide +kernel)) ht9) (ev_joinX (ev_tx "" [] (by decide +kernel) (by decide +kernel)) (ls_new (en_mapO hy22 (wk_list (ls_fr (ev_var rfl)) trivial) (fun _ => trivial) (by
      intro pC x15 y hx hq
      obtain ⟨t17, ht17, hq⟩ := bE hq
      obtain ⟨t18, ht18, hq⟩ := bE hq
      obtain ⟨t19, ht19, hq⟩ := bE hq
      obtain ⟨t20, ht20, hq⟩ := bE hq
      obtain ⟨t21, ht21, hq⟩ := bE hq
      have hq := Option.some.inj hq
      subst hq
      exact ⟨_, _, (tg_2 tg_name tg_name), by decide, (ev_catX (ev_catX (ev_catX (ev_tx " " [32] (by decide +kernel) (by decide +kernel)) (ev_strX (ev_var rfl) ht17) ht18) (ev_tx "\x3a" [58] (by decide +kernel) (by decide +kernel)) ht19) (ev_strX (ev_var rfl) ht20) ht21)⟩))) trivial ht23) ht24) ?_
    show Nx _ _ [some (dy net), some (dy t24), some (dy x7), none, none] (O)
    cases (Option.some.inj hm)
    exact nx_sub (.same (.same (.non (.non (.non .nil))))) hnx
  · show Nx _ _ [some (dy net), some (dy u25), none, none, none] (O)
    try dsimp only
    refine nx_ret (ev_var rfl) (hret _ hm)

theorem ok_Lnet_right (d_Lalike : Def P w K mg base "_law_alike" 8 ["found", "due"] (SA 8)) (d_Lwritten : Def P w K mg base "_law_written" 1 ["net"] S_Lwritten) (d_net_text : Def P w K mg base "net_text" 1 ["net"] S_net_text) (d_read_net : Def P w K mg base "read_net" 3 ["text"] S_read_net) (z_len : mg "len" = none) (z_list : mg "list" = none) {f : Addr} {fd : FuncData} (F : Fun K "_law_net_right" "_law_net_right" s_Lnet_right f fd) : FnOk P w K mg base CX0 9 f fd ["net"] (sp S_Lnet_right) := by
  obtain ⟨f_Lalike, fd_Lalike, G_Lalike, g_Lalike, k_Lalike, b_Lalike⟩ := d_Lalike
  obtain ⟨f_Lwritten, fd_Lwritten, G_Lwritten, g_Lwritten, k_Lwritten, b_Lwritten⟩ := d_Lwritten
  obtain ⟨f_net_text, fd_net_text, G_net_text, g_net_text, k_net_text, b_net_text⟩ := d_net_text
  obtain ⟨f_read_net, fd_read_net, G_read_net, g_read_net, k_read_net, b_read_net⟩ := d_read_net
  refine fn_ok F sc_Lnet_right (fun ds O r O' h => by obtain ⟨net, vr, rfl, _, rfl, rfl⟩ := h; rfl) (fun cdv A outer s H E hr => ⟨_, (pss_cons (ps_set (i := 1) sc_Lnet_right.nd rfl (by first | exact Or.inl rfl | exact Or.inr rfl) (pe_tup (pa_cons (pe_ix (kx_tup K rfl) (pv 0) pe_int (fun _ _ => rfl)) (pa_cons (pe_ix (kx_tup K rfl) (pv 0) pe_int (fun _ _ => rfl)) (pa_cons (pe_lc (own := [("pairs", 2)]) (by rfl) sc_Lnet_right.nd (ki_list K rfl (pe_ix (kx_tup K rfl) (pv 0) pe_int (fun _ _ => rfl))) (blkOk_by (N := ["net", "handed", "pairs", "text", "found"]) (sc := defScope s_Lnet_right) (by decide +kernel)) (fun _ _ _ _ _ => (pg_name (i := 2) sc_Lnet_right.nd rfl (by first | exact Or.inl rfl | exact Or.inr rfl))) (fun _ _ _ _ _ => pts_nil) (fun _ _ _ _ _ => (pe_callTy (T := "list") (kc_list K rfl) (by rfl) z_list (by decide +kernel) (pa_cons (pv 2) pa_nil)))) pa_nil)))))
        (pss_cons (ps_set (i := 3) sc_Lnet_right.nd rfl (by first | exact Or.inl rfl | exact Or.inr rfl) (pe_call G_net_text (hr.mono (by decide)) (by rfl) g_net_text k_net_text b_net_text .nil pass0 (pa_cons (pv 1) pa_nil)))
        (pss_cons (ps_if (PW.pt (pw_or (pt_not (pt_val (pe_call G_Lalike (hr.mono (by decide)) (by rfl) g_Lalike k_Lalike b_Lalike .nil pass0 (pa_cons (pv 3) (pa_cons (pe_call G_Lwritten (hr.mono (by decide)) (by rfl) g_Lwritten k_Lwritten b_Lwritten .nil pass0 (pa_cons (pv 0) pa_nil)) pa_nil))))) (pw_or1 (pt_not (pt_val (pe_call G_Lalike (hr.mono (by decide)) (by rfl) g_Lalike k_Lalike b_Lalike .nil pass0 (pa_cons (pv 1) (pa_cons (pv 0) pa_nil)))))))) (pss_one (ps_ret pe_bl)) pss_nil)
        (pss_cons (ps_asg (pe_call G_read_net (hr.mono (by decide)) (by rfl) g_read_net k_read_net b_read_net .nil pass0 (pa_cons (pv 3) pa_nil)) (pg_name (i := 4) sc_Lnet_right.nd rfl (by first | exact Or.inl rfl | exact Or.inr rfl)))
        (pss_cons (ps_if (pt_not (pt_val (pe_call G_Lalike (hr.mono (by decide)) (by rfl) g_Lalike k_Lalike b_Lalike .nil pass0 (pa_cons (pv 4) (pa_cons (pv 0) pa_nil))))) (pss_one (ps_ret pe_bl)) pss_nil)
        (pss_cons (ps_for PassesOwn.never rfl (ki_list K rfl (pe_ix (kx_tup K rfl) (pv 4) pe_int (fun _ _ => rfl))) (pg_name (i := 2) sc_Lnet_right.nd rfl (by first | exact Or.inl rfl | exact Or.inr rfl)) (pss_one (ps_expr (pe_bm PySem.F.plainAttrs_list PySem.F.slot_list_append PySem.F.type_list_append mt_append (pv 2) (pa_cons (pe_tup (pa_cons pe_int (pa_cons pe_int pa_nil))) pa_nil)))))
        (pss_cons (ps_expr (pe_bm PySem.F.plainAttrs_list PySem.F.slot_list_append PySem.F.type_list_append mt_append (pe_ix (kx_tup K rfl) (pv 4) pe_int (fun _ _ => rfl)) (pa_cons (pe_lst pa_nil) pa_nil)))
        (pss_cons (ps_if (pt_cmpR (ko_neD K rfl hr.units) (pe_lc (own := [("pairs", 2)]) (by rfl) sc_Lnet_right.nd (ki_list K rfl (pe_slice (kl_list K rfl) (pe_ix (kx_tup K rfl) (pv 4) pe_int (fun _ _ => rfl)) po_none (po_some (pe_un un_neg pe_int)))) (blkOk_by (N := ["net", "handed", "pairs", "text", "found"]) (sc := defScope s_Lnet_right) (by decide +kernel)) (fun _ _ _ _ _ => (pg_name (i := 2) sc_Lnet_right.nd rfl (by first | exact Or.inl rfl | exact Or.inr rfl))) (fun _ _ _ _ _ => pts_nil) (fun _ _ _ _ _ => (pe_callB (kc_len K rfl) (by rfl) z_len (by decide +kernel) (pa_cons (pv 2) pa_nil)))) (pe_lc (own := [("pairs", 2)]) (by rfl) sc_Lnet_right.nd (ki_list K rfl (pe_ix (kx_tup K rfl) (pv 0) pe_int (fun _ _ => rfl))) (blkOk_by (N := ["net", "handed", "pairs", "text", "found"]) (sc := defScope s_Lnet_right) (by decide +kernel)) (fun _ _ _ _ _ => (pg_name (i := 2) sc_Lnet_right.nd rfl (by first | exact Or.inl rfl | exact Or.inr rfl))) (fun _ _ _ _ _ => pts_nil) (fun _ _ _ _ _ => (pe_op op_add (pe_callB (kc_len K rfl) (by rfl) z_len (by decide +kernel) (pa_cons (pv 2) pa_nil)) pe_int))) (nomark _)) (pss_one (ps_ret pe_bl)) pss_nil)
        (pss_one (ps_ret (pe_call G_Lalike (hr.mono (by decide)) (by rfl) g_Lalike k_Lalike b_Lalike .nil pass0 (pa_cons (pe_call G_read_net (hr.mono (by decide)) (by rfl) g_read_net k_read_net b_read_net .nil pass0 (pa_cons (pv 3) pa_nil)) (pa_cons (pv 0) pa_nil))))))))))))), fun ds O r O' hS G0 Q hrt => ?_⟩)
  obtain ⟨net, vr, rfl, hm, rfl, rfl⟩ := hS
  have hret : ∀ x : Bool, some x = some vr → RtD G0 Q (dy x) O := fun x e => by cases e; exact hrt
  clear hrt
  unfold m_Lnet_right_3a25 at hm
  obtain ⟨y3, hy3, hm⟩ := bE hm
  obtain ⟨handed4, hhanded4, hm⟩ := bE hm
  try dsimp only
  refine nx_seq (nx_asgD (i := 1) (ev_of (ev_tup3 (ea_cons (ev_t30 (ev_var rfl)) (ea_cons (ev_t31 (ev_var rfl)) (ea_cons (EvC.fr (en_mapO hy3 (wk_list (ls_fr (ev_t32 (ev_var rfl))) trivial) (fun _ => trivial) (by
    intro pC x1 y hx hq
    have hq := Option.some.inj hq
    subst hq
    exact ⟨_, _, tg_name, by decide, (EvC.fr (en_list (ls_fr (ev_var rfl)) trivial))⟩))) ea_nil)))) (Option.some.inj hhanded4)) ?_)
  show Nx _ _ [some (dy net), some (dy handed4), none, none, none] (O)
  obtain ⟨t5, ht5, hm⟩ := bE hm
  try dsimp only
  refine nx_seq (nx_asgD (i := 3) (ev_call (ea_cons (ev_var rfl) ea_nil) ⟨_, _, rfl, ht5, rfl, rfl⟩) ?_)
  show Nx _ _ [some (dy net), some (dy handed4), none, some (dy t5), none] (O)
  obtain ⟨t6, ht6, hm⟩ := bE hm
  try dsimp only
  refine nx_seq (nx_if (et_orP (et_not (et_B (ev_alike (x := t5) (n := 7) (eq_fr (ev_var rfl)) (eq_fr (ev_call (ea_cons (ev_var rfl) ea_nil) ⟨_, _, rfl, ht6, rfl, rfl⟩)) trivial trivial))) (et_not (et_B (ev_alike (x := handed4) (n := 7) (eq_fr (ev_var rfl)) (eq_fr (ev_var rfl)) trivial trivial)))) (fun hc => ?_) (fun hc => ?_))
  · have hm := iT hc hm
    try dsimp only
    refine nx_ret ev_bl (hret _ hm)
  · have hm := iF hc hm
    refine nx_next ?_
    try dsimp only
    obtain ⟨t7, ht7, hm⟩ := bE hm
    try dsimp only
    refine nx_seq (nx_asgO (eo_call (ea_cons (ev_var rfl) ea_nil) ⟨_, _, rfl, ht7, rfl, rfl⟩) (fun as hl => ?_))
    obtain ⟨l8, rfl⟩ := len1 hl
    refine ⟨_, _, td_name, ?_⟩
    show Nx _ _ [some (dy net), some (dy handed4), none, some (dy t5), some (dyT3 (dy t7.a) (dy t7.b) (dyA l8))] ((l8, cN (t7.c : List (List (T2 Int Int)))) :: O)
    try dsimp only
    refine nx_seq (nx_if (et_not (et_B (ev_alike (x := (T3.mk t7.a t7.b t7.c)) (n := 7) (eq_D (ev_var rfl) (dd_T3 (dd_fr (x := t7.a)) (dd_fr (x := t7.b)) (dd_ownN (α := T2 Int Int))) ⟨trivial, trivial, ⟨0, rfl⟩⟩) (eq_fr (ev_var rfl)) ⟨trivial, trivial, ⟨0, rfl⟩⟩ trivial))) (fun hc => ?_) (fun hc => ?_))
    · have hm := iT hc hm
      try dsimp only
      refine nx_ret ev_bl (RtD.drop (hret _ hm))
    · have hm := iF hc hm
      refine nx_next ?_
      try dsimp only
      obtain ⟨nest9, hnest9, hm⟩ := bE hm
      try dsimp only
      refine nx_seq (nx_forApp (i := 2) (k := 0) (ed_t32 (ev_var rfl)) rfl (ev_tup2 (ea_cons ev_int (ea_cons ev_int ea_nil))) (by simp) hnest9 ?_)
      show Nx _ _ [some (dy net), some (dy handed4), none, some (dy t5), some (dyT3 (dy t7.a) (dy t7.b) (dyA l8))] ((l8, cN (nest9 : List (List (T2 Int Int)))) :: O)
      obtain ⟨found10, hfound10, hm⟩ := bE hm
      try dsimp only
      refine nx_seq (nx_push (xss0 := nest9) 0 (ed_t32 (ev_var rfl)) rfl (en_lst (xs := ([] : List (T2 Int Int))) ea_nil trivial (by show 0 ≤ 1000000; decide)) rfl hfound10 ?_)
      show Nx _ _ [some (dy net), some (dy handed4), none, some (dy t5), some (dyT3 (dy t7.a) (dy t7.b) (dyA l8))] ((l8, cN (found10 : List (List (T2 Int Int)))) :: O)
      refine nx_freezeT3N (i := 4) (k := 0) rfl rfl ?_
      show Nx _ _ [some (dy net), some (dy handed4), none, some (dy t5), some (dy (T3.mk t7.a t7.b found10))] (O)
      obtain ⟨y13, hy13, hm⟩ := bE hm
      obtain ⟨y16, hy16, hm⟩ := bE hm
      try dsimp only
      refine nx_seq (nx_if (et_test (ev_neD (ep_fr (EvC.fr (en_mapO hy13 (wk_list (ls_new (en_cut (ls_fr (ev_t32 (ev_var rfl))) eo_none (eo_some (ev_neg ev_int)) trivial)) trivial) (fun _ => trivial) (by
        intro pC x11 y hx hq
        have hq := Option.some.inj hq
        subst hq
        exact ⟨_, _, tg_name, by decide, (ev_len (ls_fr (ev_var rfl)) trivial)⟩)))) (ep_fr (EvC.fr (en_mapO hy16 (wk_list (ls_fr (ev_t32 (ev_var rfl))) trivial) (fun _ => trivial) (by
        intro pC x14 y hx hq
        have hq := Option.some.inj hq
        subst hq
        exact ⟨_, _, tg_name, by decide, (ev_add (ev_len (ls_fr (ev_var rfl)) trivial) ev_int)⟩)))) trivial trivial)) (fun hc => ?_) (fun hc => ?_))
      · have hm := iT hc hm
        try dsimp only
        refine nx_ret ev_bl (hret _ hm)
      · have hm := iF hc hm
        refine nx_next ?_
        try dsimp only
        obtain ⟨t17, ht17, hm⟩ := bE hm
        try dsimp only
        refine nx_ret (ev_alike (x := t17) (n := 7) (eq_fr (EvU.frN3 (eo_call (ea_cons (ev_var rfl) ea_nil) ⟨_, _, rfl, ht17, rfl, rfl⟩))) (eq_fr (ev_var rfl)) trivial trivial) (hret _ hm)

theorem ok_law (d_Lany_net : Def P w K mg base "_law_any_net" 4 ["bag"] S_Lany_net) (d_Lbag : Def P w K mg base "_law_bag" 1 ["script"] (S_Lbag K)) (d_Ldraw : Def P w K mg base "_law_draw" 2 ["bag", "many"] S_Ldraw) (d_Lnet_right : Def P w K mg base "_law_net_right" 9 ["net"] S_Lnet_right) (d_Lwild_net : Def P w K mg base "_law_wild_net" 4 ["bag"] S_Lwild_net) (z_range : mg "range" = none) {f : Addr} {fd : FuncData} (F : Fun K "law" "law" s_law f fd) : FnOk P w K mg base CX0 10 f fd ["script"] (sp (S_law K)) := by
  obtain ⟨f_Lany_net, fd_Lany_net, G_Lany_net, g_Lany_net, k_Lany_net, b_Lany_net⟩ := d_Lany_net
  obtain ⟨f_Lbag, fd_Lbag, G_Lbag, g_Lbag, k_Lbag, b_Lbag⟩ := d_Lbag
  obtain ⟨f_Ldraw, fd_Ldraw, G_Ldraw, g_Ldraw, k_Ldraw, b_Ldraw⟩ := d_Ldraw
  obtain ⟨f_Lnet_right, fd_Lnet_right, G_Lnet_right, g_Lnet_right, k_Lnet_right, b_Lnet_right⟩ := d_Lnet_right
  obtain ⟨f_Lwild_net, fd_Lwild_net, G_Lwild_net, g_Lwild_net, k_Lwild_net, b_Lwild_net⟩ := d_Lwild_net
  refine fn_ok F sc_law (fun ds O r O' h => by obtain ⟨script, vr, rfl, _, rfl, rfl⟩ := h; rfl) (fun cdv A outer s H E hr => ⟨_, (pss_cons (ps_set (i := 1) sc_law.nd rfl (by first | exact Or.inl rfl | exact Or.inr rfl) (pe_call G_Lbag (hr.mono (by decide)) (by rfl) g_Lbag k_Lbag b_Lbag .nil pass0 (pa_cons (pv 0) pa_nil)))
        (pss_cons (ps_set (i := 2) sc_law.nd rfl (by first | exact Or.inl rfl | exact Or.inr rfl) (pe_lst pa_nil))
        (pss_cons (ps_for PassesOwn.never rfl (pi_range1 (by rfl) z_range (pa_cons pe_int pa_nil)) (pg_name (i := 3) sc_law.nd rfl (by first | exact Or.inl rfl | exact Or.inr rfl)) (pss_cons (ps_set (i := 4) sc_law.nd rfl (by first | exact Or.inl rfl | exact Or.inr rfl) (pe_cmpR op_eq (pe_call G_Ldraw (hr.mono (by decide)) (by rfl) g_Ldraw k_Ldraw b_Ldraw .nil pass0 (pa_cons (pv 1) (pa_cons pe_int pa_nil))) pe_int (nomark _)))
        (pss_one (ps_expr (pe_bm PySem.F.plainAttrs_list PySem.F.slot_list_append PySem.F.type_list_append mt_append (pv 2) (pa_cons (pe_ifExp (pt_val (pv 4)) (pe_call G_Lwild_net (hr.mono (by decide)) (by rfl) g_Lwild_net k_Lwild_net b_Lwild_net .nil pass0 (pa_cons (pv 1) pa_nil)) (pe_call G_Lany_net (hr.mono (by decide)) (by rfl) g_Lany_net k_Lany_net b_Lany_net .nil pass0 (pa_cons (pv 1) pa_nil))) pa_nil))))))
        (pss_cons (ps_for PassesOwn.never rfl (ki_list K rfl (pe_op op_cat (pv 2) (pe_slice (kl_list K rfl) (pv 2) po_none (po_some pe_int)))) (pg_name (i := 5) sc_law.nd rfl (by first | exact Or.inl rfl | exact Or.inr rfl)) (pss_one (ps_if (pt_not (pt_val (pe_call G_Lnet_right (hr.mono (by decide)) (by rfl) g_Lnet_right k_Lnet_right b_Lnet_right .nil pass0 (pa_cons (pv 5) pa_nil)))) (pss_one (ps_ret pe_bl)) pss_nil)))
        (pss_one (ps_ret pe_bl)))))), fun ds O r O' hS G0 Q hrt => ?_⟩)
  obtain ⟨script, vr, rfl, hm, rfl, rfl⟩ := hS
  have hret : ∀ x : Bool, some x = some vr → RtD G0 Q (dy x) O := fun x e => by cases e; exact hrt
  clear hrt
  unfold m_law_d1ef at hm
  obtain ⟨t1, ht1, hm⟩ := bE hm
  try dsimp only
  refine nx_seq (nx_asgC (i := 1) (ec_call (ea_cons (ev_var rfl) ea_nil) ⟨_, _, rfl, ht1, rfl, rfl⟩) (fun l2 => ?_))
  -- bag
  try dsimp only
  refine nx_seq (nx_asgC (i := 2) (en_lst (xs := ([] : List (T3 Int Int (List (List (T2 Int Int)))))) ea_nil trivial (by show 0 ≤ 1000000; decide)) (fun l3 => ?_))
  -- some
  obtain ⟨t4, ht4, hm⟩ := bE hm
  obtain ⟨u14, hu14, hm⟩ := bE hm
  try dsimp only
  refine nx_seq (nx_fold (τI := fun (u5 : (Bag × (List (T3 Int Int (List (List (T2 Int Int))))))) => [some (dyS K script), some (dyA l2), some (dyA l3), none, none, none]) (OI := fun (u5 : (Bag × (List (T3 Int Int (List (List (T2 Int Int))))))) => ((l3, cL (u5.2 : List (T3 Int Int (List (List (T2 Int Int)))))) :: (l2, cBag u5.1) :: O)) hu14 (wk_rng1 ev_int ht4) (.same (.same (.same (.non (.non (.non .nil)))))) (fun _ => trivial) ?_ ?_)
  · clear hm
    intro G1 e1 x6 u5 sN hx hm D1 hD hnx
    refine ⟨_, _, tg_name, ?_⟩
    show Nx _ _ [some (dyS K script), some (dyA l2), some (dyA l3), some (dy x6), none, none] ((l3, cL (u5.2 : List (T3 Int Int (List (List (T2 Int Int)))))) :: (l2, cBag u5.1) :: O)
    obtain ⟨r8, hr8, hm⟩ := bE hm
    obtain ⟨wild9, hwild9, hm⟩ := bE hm
    try dsimp only
    refine nx_seq (nx_asgD (i := 4) (ev_of (ev_eq (ev_callK 1 (ea_cons (ev_own rfl) (ea_cons ev_int ea_nil)) rfl ⟨_, _, _, _, _, _, rfl, rfl, hr8, rfl, rfl⟩) ev_int) (Option.some.inj hwild9)) ?_)
    show Nx _ _ [some (dyS K script), some (dyA l2), some (dyA l3), some (dy x6), some (dy wild9), none] ((l3, cL (u5.2 : List (T3 Int Int (List (List (T2 Int Int)))))) :: (l2, cBag r8.2) :: O)
    obtain ⟨t12, ht12, hm⟩ := bE hm
    obtain ⟨somev13, hsomev13, hm⟩ := bE hm
    try dsimp only
    refine nx_appP (xs0 := u5.2) 0 (ev_own rfl) rfl (ev_if (d := dy (t12.1 : T3 Int Int (List (List (T2 Int Int))))) (O2 := ((l3, cL (u5.2 : List (T3 Int Int (List (List (T2 Int Int)))))) :: (l2, cBag t12.2) :: O)) (et_B (ev_var rfl)) (fun hc => (fun hq => by
      obtain ⟨r10, hr10, hq⟩ := bE hq
      cases (Option.some.inj hq)
      exact (ev_callK 1 (ea_cons (ev_own rfl) ea_nil) rfl ⟨_, _, _, _, _, rfl, rfl, hr10, rfl, rfl⟩)) (iT hc ht12)) (fun hc => (fun hq => by
      obtain ⟨r11, hr11, hq⟩ := bE hq
      cases (Option.some.inj hq)
      exact (ev_callK 1 (ea_cons (ev_own rfl) ea_nil) rfl ⟨_, _, _, _, _, rfl, rfl, hr11, rfl, rfl⟩)) (iF hc ht12))) rfl hsomev13 ?_
    show Nx _ _ [some (dyS K script), some (dyA l2), some (dyA l3), some (dy x6), some (dy wild9), none] ((l3, cL (somev13 : List (T3 Int Int (List (List (T2 Int Int)))))) :: (l2, cBag t12.2) :: O)
    cases (Option.some.inj hm)
    exact nx_sub (.same (.same (.same (.non (.non (.non .nil)))))) hnx
  · show Nx _ _ [some (dyS K script), some (dyA l2), some (dyA l3), none, none, none] ((l3, cL (u14.2 : List (T3 Int Int (List (List (T2 Int Int)))))) :: (l2, cBag u14.1) :: O)
    obtain ⟨t15, ht15, hm⟩ := bE hm
    obtain ⟨fl23, hf24, hm⟩ := aE hm
    try dsimp only
    refine nx_seq (nx_for (τI := fun (u16 : (Unit)) => [some (dyS K script), some (dyA l2), some (dyA l3), none, none, none]) (OI := fun (u16 : (Unit)) => ((l3, cL (u14.2 : List (T3 Int Int (List (List (T2 Int Int)))))) :: (l2, cBag u14.1) :: O)) hf24 (wk_list (ls_new (en_cat (ls_ownP 0 (ev_own rfl) rfl) (ls_new (en_cut (ls_ownP 0 (ev_own rfl) rfl) eo_none (eo_some ev_int) ⟨0, rfl⟩)) ⟨0, rfl⟩ trivial ht15)) trivial) (.same (.same (.same (.non (.non (.non .nil)))))) (fun _ => trivial) ?_ ?_)
    · intro G1 e1 x17 u16 fl1 hx hq D1 hD hnx h3
      have hret19 : ∀ x, some (Fl.ret (x)) = some fl1 → RtD G1 D1.rt (dy (x : Bool)) O := fun x e => by
        have e2 := h3 _ (Option.some.inj e).symm
        have e3 := hm
        rw [e2] at e3
        rw [hD]
        exact (hret x e3).up e1
      clear hm h3
      have hm := hq
      clear hq
      refine ⟨_, _, tg_name, ?_⟩
      show Nx _ _ [some (dyS K script), some (dyA l2), some (dyA l3), none, none, some (dy x17)] ((l3, cL (u14.2 : List (T3 Int Int (List (List (T2 Int Int)))))) :: (l2, cBag u14.1) :: O)
      obtain ⟨t21, ht21, hm⟩ := bE hm
      try dsimp only
      refine nx_if (et_not (et_B (ev_call (ea_cons (ev_var rfl) ea_nil) ⟨_, _, rfl, ht21, rfl, rfl⟩))) (fun hc => ?_) (fun hc => ?_)
      · have hm := iT hc hm
        try dsimp only
        refine nx_ret ev_bl (RtD.drop (RtD.drop (hret19 _ hm)))
      · have hm := iF hc hm
        refine nx_next ?_
        try dsimp only
        exact nx_sub (.same (.same (.same (.non (.non (.non .nil)))))) (hnx _ (Option.some.inj hm).symm)
    · intro u22 hs
      subst hs
      show Nx _ _ [some (dyS K script), some (dyA l2), some (dyA l3), none, none, none] ((l3, cL (u14.2 : List (T3 Int Int (List (List (T2 Int Int)))))) :: (l2, cBag u14.1) :: O)
      have hm := aftN hm
      try dsimp only
      refine nx_ret ev_bl (RtD.drop (RtD.drop (hret _ hm)))

end
end K92
end DL
end
section
namespace DL
/-! ### primes, by Pocklington's test -/
def Pr (p : Nat) : Prop := 2 ≤ p ∧ ∀ d, d ∣ p → d = 1 ∨ d = p
theorem Pr.two {p : Nat} (h : Pr p) : 2 ≤ p := h.1
theorem Pr.coprime {p b : Nat} (h : Pr p) (hb : ¬ p ∣ b) : Nat.gcd p b = 1 := by
  rcases h.2 _ (Nat.gcd_dvd_left p b) with e | e
  · exact e
  · exact absurd (e ▸ Nat.gcd_dvd_right p b) hb
theorem pr_of_trial {q : Nat} (h2 : 2 ≤ q) (h : ∀ k, 2 ≤ k → k * k ≤ q → q % k ≠ 0) : Pr q := by
  refine ⟨h2, fun d hd => ?_⟩
  obtain ⟨c, hc⟩ := hd
  by_cases e1 : d = 1
  · exact .inl e1
  by_cases e2 : d = q
  · exact .inr e2
  have d0 : 0 < d := Nat.pos_of_ne_zero fun z => by rw [z] at hc; omega
  have c0 : 0 < c := Nat.pos_of_ne_zero fun z => by rw [z] at hc; omega
  have c1 : c ≠ 1 := fun z => e2 (by rw [z] at hc; omega)
  exfalso
  by_cases hle : d ≤ c
  · refine h d (by omega) ?_ ?_
    · rw [hc]
      exact Nat.mul_le_mul_left d hle
    · rw [hc]
      exact Nat.mul_mod_right d c
  · refine h c (by omega) ?_ ?_
    · rw [hc]
      exact Nat.mul_le_mul_right c (by omega)
    · rw [hc]
      exact Nat.mul_mod_left d c
def trial (b q : Nat) : Bool := (List.range b).all fun k => decide (k < 2) || decide (q < k * k) || !decide (q % k = 0)
theorem pr_trial {q : Nat} (b : Nat) (h2 : 2 ≤ q) (hb : q < b * b) (h : trial b q = true) : Pr q := by
  refine pr_of_trial h2 fun k hk hkk hm => ?_
  have hlt : k < b := by
    by_cases z : k < b
    · exact z
    · have : b * b ≤ k * k := Nat.mul_le_mul (by omega) (by omega)
      omega
  have h3 := List.all_eq_true.mp h k (List.mem_range.mpr hlt)
  simp only [Bool.or_eq_true, decide_eq_true_eq, Bool.not_eq_true', decide_eq_false_iff_not] at h3
  omega
def pm (n : Nat) : Nat → Nat → Nat → Nat
  | 0, _, _ => 1 % n
  | f + 1, b, e => if e = 0 then 1 % n else if e % 2 = 1 then b * pm n f (b * b % n) (e / 2) % n else pm n f (b * b % n) (e / 2)
theorem pm_eq (n : Nat) : ∀ f b e : Nat, e < 2 ^ f → pm n f b e = b ^ e % n
  | 0, b, e, h => by
    have e0 : e = 0 := by simp at h; exact h
    subst e0
    simp [pm]
  | f + 1, b, e, h => by
    unfold pm
    by_cases e0 : e = 0
    · rw [if_pos e0, e0, Nat.pow_zero]
    rw [if_neg e0]
    have ih := pm_eq n f (b * b % n) (e / 2) (by rw [Nat.pow_succ] at h; omega)
    have hp : (b * b % n) ^ (e / 2) % n = (b * b) ^ (e / 2) % n := (Nat.pow_mod (b * b) (e / 2) n).symm
    rw [ih, hp]
    have h2 : (b * b) ^ (e / 2) = b ^ (2 * (e / 2)) := by rw [Nat.pow_mul, Nat.pow_two]
    by_cases e1 : e % 2 = 1
    · rw [if_pos e1, Nat.mul_mod, Nat.mod_mod, ← Nat.mul_mod, h2, ← Nat.pow_add_one']
      congr 2
      omega
    · rw [if_neg e1, h2]
      congr 2
      omega
theorem php : ∀ (m : Nat) (f : Nat → Nat), (∀ i, i ≤ m → 1 ≤ f i ∧ f i ≤ m) → ∃ i j, i < j ∧ j ≤ m ∧ f i = f j
  | 0, f, h => by have := h 0 (Nat.le_refl _); omega
  | m + 1, f, h => by
    by_cases hc : ∃ i, i ≤ m ∧ f i = f (m + 1)
    · obtain ⟨i, hi, e⟩ := hc
      exact ⟨i, m + 1, by omega, Nat.le_refl _, e⟩
    have hn : ∀ i, i ≤ m → f i ≠ f (m + 1) := fun i hi e => hc ⟨i, hi, e⟩
    obtain ⟨i, j, hij, hj, e⟩ := php m (fun i => if f i = m + 1 then f (m + 1) else f i) (fun i hi => by
      have h1 := h i (by omega)
      have h2 := h (m + 1) (Nat.le_refl _)
      have h3 := hn i hi
      show 1 ≤ (if f i = m + 1 then f (m + 1) else f i) ∧ (if f i = m + 1 then f (m + 1) else f i) ≤ m
      split <;> omega)
    refine ⟨i, j, hij, by omega, ?_⟩
    have h3 := hn i (by omega)
    have h4 := hn j hj
    have e : (if f i = m + 1 then f (m + 1) else f i) = (if f j = m + 1 then f (m + 1) else f j) := e
    split at e <;> split at e <;> omega
theorem least {P : Nat → Prop} : ∀ n, P n → ∃ m, m ≤ n ∧ P m ∧ ∀ k, k < m → ¬ P k := by
  intro n
  induction n using Nat.strongRecOn with
  | _ n ih =>
    intro h
    by_cases hc : ∃ k, k < n ∧ P k
    · obtain ⟨k, hk, hp⟩ := hc
      obtain ⟨m, h1, h2, h3⟩ := ih k hk hp
      exact ⟨m, by omega, h2, h3⟩
    · exact ⟨n, Nat.le_refl _, h, fun k hk hp => hc ⟨k, hk, hp⟩⟩
theorem mod_of_dvd {r n a : Nat} (h : r ∣ n) (hr : 2 ≤ r) (h1 : a % n = 1) : a % r = 1 := by
  have e := Nat.mod_mod_of_dvd a h
  rw [h1] at e
  rw [← e]
  exact Nat.mod_eq_of_lt (by omega)
theorem cop_of_pow {a r m : Nat} (hr : 2 ≤ r) (hm : 0 < m) (h : a ^ m % r = 1) : Nat.gcd a r = 1 := by
  have h1 : Nat.gcd a r ∣ a ^ m := by
    obtain ⟨k, rfl⟩ : ∃ k, m = k + 1 := ⟨m - 1, by omega⟩
    rw [Nat.pow_succ]
    exact Nat.dvd_trans (Nat.gcd_dvd_left a r) (Nat.dvd_mul_left a (a ^ k))
  have h2 : Nat.gcd a r ∣ r := Nat.gcd_dvd_right a r
  have h3 : Nat.gcd a r ∣ a ^ m % r := (Nat.dvd_mod_iff h2).mpr h1
  rw [h] at h3
  exact Nat.dvd_one.mp h3
theorem order {a r m : Nat} (hr : 2 ≤ r) (hm : 0 < m) (h : a ^ m % r = 1) : ∃ d, 0 < d ∧ d < r ∧ a ^ d % r = 1 ∧ ∀ k, a ^ k % r = 1 → d ∣ k := by
  have hc := cop_of_pow hr hm h
  have hcp : ∀ i, Nat.gcd (a ^ i) r = 1 := fun i => Nat.Coprime.pow_left i hc
  have ex : ∃ d, 0 < d ∧ d < r ∧ a ^ d % r = 1 := by
    obtain ⟨i, j, hij, hj, e⟩ := php (r - 1) (fun i => a ^ i % r) (fun i hi => by
      have h1 : a ^ i % r < r := Nat.mod_lt _ (by omega)
      have h2 : a ^ i % r ≠ 0 := fun z => by
        have h3 : r ∣ a ^ i := Nat.dvd_of_mod_eq_zero z
        have h4 : r ∣ Nat.gcd (a ^ i) r := Nat.dvd_gcd h3 (Nat.dvd_refl r)
        rw [hcp i] at h4
        have := Nat.dvd_one.mp h4
        omega
      show 1 ≤ a ^ i % r ∧ a ^ i % r ≤ r - 1
      omega)
    have e : a ^ i % r = a ^ j % r := e
    refine ⟨j - i, by omega, by omega, ?_⟩
    have ej : a ^ j = a ^ i * a ^ (j - i) := by rw [← Nat.pow_add]; congr 1; omega
    have a0 : 0 < a := Nat.pos_of_ne_zero fun z => by
      rw [z, Nat.zero_pow hm, Nat.zero_mod] at h
      omega
    have p1 : 1 ≤ a ^ (j - i) := Nat.one_le_iff_ne_zero.mpr (by have := Nat.pow_pos (n := j - i) a0; omega)
    have h5 : r ∣ a ^ i * (a ^ (j - i) - 1) := by
      rw [Nat.mul_sub, Nat.mul_one, ← ej]
      exact Nat.dvd_of_mod_eq_zero (Nat.sub_mod_eq_zero_of_mod_eq e.symm)
    have h6 : r ∣ a ^ (j - i) - 1 := Nat.Coprime.dvd_of_dvd_mul_left (Nat.Coprime.symm (hcp i)) h5
    obtain ⟨c, hc⟩ := h6
    have e2 : a ^ (j - i) = 1 + r * c := by omega
    rw [e2, Nat.add_mul_mod_self_left]
    exact Nat.mod_eq_of_lt (by omega)
  obtain ⟨d0, h1, h2, h3⟩ := ex
  obtain ⟨d, g1, ⟨g2, g3⟩, g4⟩ := least (P := fun d => 0 < d ∧ a ^ d % r = 1) d0 ⟨h1, h3⟩
  refine ⟨d, g2, by omega, g3, fun k hk => ?_⟩
  apply Nat.dvd_of_mod_eq_zero
  by_cases z : k % d = 0
  · exact z
  exfalso
  refine g4 (k % d) (Nat.mod_lt _ g2) ⟨by omega, ?_⟩
  have ek : a ^ k = (a ^ d) ^ (k / d) * a ^ (k % d) := by
    rw [← Nat.pow_mul, ← Nat.pow_add]
    congr 1
    exact (Nat.div_add_mod k d).symm
  rw [ek, Nat.mul_mod, Nat.pow_mod, g3, Nat.one_pow] at hk
  rw [Nat.mod_eq_of_lt (show 1 < r by omega), Nat.one_mul, Nat.mod_mod] at hk
  exact hk
/-- every order of a modulo a divisor of n is a multiple of F -/
def Mul (n a F : Nat) : Prop := ∀ r d, r ∣ n → 2 ≤ r → a ^ d % r = 1 → (∀ k, a ^ k % r = 1 → d ∣ k) → F ∣ d
theorem Mul.one {n a : Nat} : Mul n a 1 := fun _ d _ _ _ _ => Nat.one_dvd d
theorem Mul.step {n a F : Nat} (q e x f : Nat) (h : Mul n a F) (hq : Pr q) (h1 : pm n f a (n - 1) = 1) (hf : n < 2 ^ f) (he : (n - 1) % q ^ e = 0) (e0 : 0 < e) (hx : pm n f a ((n - 1) / q) = x) (hg : Nat.gcd (x + n - 1) n = 1) (hc : Nat.gcd F (q ^ e) = 1) : Mul n a (F * q ^ e) := fun r d hr h2 hdd hd => by
  have q2 := hq.1
  have hF := h r d hr h2 hdd hd
  rw [pm_eq n f a (n - 1) (by omega)] at h1
  rw [pm_eq n f a ((n - 1) / q) (Nat.lt_of_le_of_lt (Nat.div_le_self _ _) (by omega))] at hx
  refine Nat.Coprime.mul_dvd_of_dvd_of_dvd hc hF ?_
  obtain ⟨k, hk⟩ := hd (n - 1) (mod_of_dvd hr h2 h1)
  have hqk : ¬ q ∣ k := fun ⟨c, hc⟩ => by
    have e1 : (n - 1) / q = d * c := by
      rw [hk, hc]
      rw [show d * (q * c) = q * (d * c) by rw [Nat.mul_left_comm]]
      exact Nat.mul_div_cancel_left _ (by omega)
    have e2 : a ^ ((n - 1) / q) % r = 1 := by
      rw [e1, Nat.pow_mul, Nat.pow_mod, hdd, Nat.one_pow]
      exact Nat.mod_eq_of_lt (by omega)
    have e3 : x % r = 1 := by
      rw [← hx, Nat.mod_mod_of_dvd _ hr]
      exact e2
    have e4 : r ∣ x + n - 1 := by
      have e5 : x = r * (x / r) + 1 := by
        have := Nat.div_add_mod x r
        omega
      rw [show x + n - 1 = r * (x / r) + n by omega]
      exact (Nat.dvd_add_right (Nat.dvd_mul_right r _)).mpr hr
    have e6 : r ∣ Nat.gcd (x + n - 1) n := Nat.dvd_gcd e4 hr
    rw [hg] at e6
    have := Nat.dvd_one.mp e6
    omega
  have hcop : Nat.gcd (q ^ e) k = 1 := Nat.Coprime.pow_left e (hq.coprime hqk)
  have hdv : q ^ e ∣ d * k := by rw [← hk]; exact Nat.dvd_of_mod_eq_zero he
  exact Nat.Coprime.dvd_of_dvd_mul_right hcop hdv
theorem Mul.prime {n a F f : Nat} (h : Mul n a F) (hn : 2 ≤ n) (hf : n < 2 ^ f) (h1 : pm n f a (n - 1) = 1) (hF : n < F * F) : Pr n := by
  rw [pm_eq n f a (n - 1) (by omega)] at h1
  have key : ∀ r, r ∣ n → 2 ≤ r → ¬ r * r ≤ n := fun r hr h2 hrr => by
    have hm := mod_of_dvd hr h2 h1
    obtain ⟨d, d1, d2, d3, d4⟩ := order h2 (show 0 < n - 1 by omega) hm
    have h5 := Nat.le_of_dvd d1 (h r d hr h2 d3 d4)
    have h6 : F * F ≤ r * r := Nat.mul_le_mul (by omega) (by omega)
    omega
  refine ⟨hn, fun d hd => ?_⟩
  obtain ⟨c, hc⟩ := hd
  by_cases e1 : d = 1
  · exact .inl e1
  by_cases e2 : d = n
  · exact .inr e2
  exfalso
  have d0 : 0 < d := Nat.pos_of_ne_zero fun z => by rw [z] at hc; omega
  have c0 : 0 < c := Nat.pos_of_ne_zero fun z => by rw [z] at hc; omega
  have c1 : c ≠ 1 := fun z => e2 (by rw [z] at hc; omega)
  by_cases hle : d ≤ c
  · exact key d ⟨c, hc⟩ (by omega) (by rw [hc]; exact Nat.mul_le_mul_left d hle)
  · exact key c ⟨d, by rw [hc, Nat.mul_comm]⟩ (by omega) (by rw [hc]; exact Nat.mul_le_mul_right c (by omega))
theorem pr_2 : Pr 2 := pr_trial 2 (by decide) (by decide) (by decide +kernel)
theorem pr_3 : Pr 3 := pr_trial 2 (by decide) (by decide) (by decide +kernel)
theorem pr_5 : Pr 5 := pr_trial 3 (by decide) (by decide) (by decide +kernel)
theorem pr_7 : Pr 7 := pr_trial 3 (by decide) (by decide) (by decide +kernel)
theorem pr_11 : Pr 11 := pr_trial 4 (by decide) (by decide) (by decide +kernel)
theorem pr_101 : Pr 101 := pr_trial 11 (by decide) (by decide) (by decide +kernel)
theorem pr_10007 : Pr 10007 := pr_trial 101 (by decide) (by decide) (by decide +kernel)
theorem pr_65537 : Pr 65537 := pr_trial 257 (by decide) (by decide) (by decide +kernel)
theorem pr_166667 : Pr 166667 := pr_trial 409 (by decide) (by decide) (by decide +kernel)
theorem pr_1000003 : Pr 1000003 := by
  have h1 : pm 1000003 20 2 (1000003 - 1) = 1 := by decide +kernel
  have h0 : Mul 1000003 2 1 := Mul.one
  have g1 : Mul 1000003 2 (1 * 2 ^ 1) := Mul.step 2 1 1000002 20 h0 pr_2 h1 (by decide) (by decide +kernel) (by decide) (by decide +kernel) (by decide +kernel) (by decide +kernel)
  have k1 : Mul 1000003 2 2 := by
    have e : 1 * 2 ^ 1 = 2 := by decide +kernel
    rw [e] at g1
    exact g1
  have g2 : Mul 1000003 2 (2 * 3 ^ 1) := Mul.step 3 1 499501 20 k1 pr_3 h1 (by decide) (by decide +kernel) (by decide) (by decide +kernel) (by decide +kernel) (by decide +kernel)
  have k2 : Mul 1000003 2 6 := by
    have e : 2 * 3 ^ 1 = 6 := by decide +kernel
    rw [e] at g2
    exact g2
  have g3 : Mul 1000003 2 (6 * 166667 ^ 1) := Mul.step 166667 1 64 20 k2 pr_166667 h1 (by decide) (by decide +kernel) (by decide) (by decide +kernel) (by decide +kernel) (by decide +kernel)
  have k3 : Mul 1000003 2 1000002 := by
    have e : 6 * 166667 ^ 1 = 1000002 := by decide +kernel
    rw [e] at g3
    exact g3
  exact Mul.prime k3 (by decide) (by decide) h1 (by decide +kernel)
theorem pr_998244353 : Pr 998244353 := by
  have h1 : pm 998244353 30 3 (998244353 - 1) = 1 := by decide +kernel
  have h0 : Mul 998244353 3 1 := Mul.one
  have g1 : Mul 998244353 3 (1 * 2 ^ 23) := Mul.step 2 23 998244352 30 h0 pr_2 h1 (by decide) (by decide +kernel) (by decide) (by decide +kernel) (by decide +kernel) (by decide +kernel)
  have k1 : Mul 998244353 3 8388608 := by
    have e : 1 * 2 ^ 23 = 8388608 := by decide +kernel
    rw [e] at g1
    exact g1
  exact Mul.prime k1 (by decide) (by decide) h1 (by decide +kernel)
theorem pr_41 : Pr 41 := pr_trial 7 (by decide) (by decide) (by decide +kernel)
theorem pr_148721 : Pr 148721 := pr_trial 386 (by decide) (by decide) (by decide +kernel)
theorem pr_500000003 : Pr 500000003 := by
  have h1 : pm 500000003 29 2 (500000003 - 1) = 1 := by decide +kernel
  have h0 : Mul 500000003 2 1 := Mul.one
  have g1 : Mul 500000003 2 (1 * 2 ^ 1) := Mul.step 2 1 500000002 29 h0 pr_2 h1 (by decide) (by decide +kernel) (by decide) (by decide +kernel) (by decide +kernel) (by decide +kernel)
  have k1 : Mul 500000003 2 2 := by
    have e : 1 * 2 ^ 1 = 2 := by decide +kernel
    rw [e] at g1
    exact g1
  have g2 : Mul 500000003 2 (2 * 41 ^ 2) := Mul.step 41 2 278358512 29 k1 pr_41 h1 (by decide) (by decide +kernel) (by decide) (by decide +kernel) (by decide +kernel) (by decide +kernel)
  have k2 : Mul 500000003 2 3362 := by
    have e : 2 * 41 ^ 2 = 3362 := by decide +kernel
    rw [e] at g2
    exact g2
  have g3 : Mul 500000003 2 (3362 * 148721 ^ 1) := Mul.step 148721 1 233858057 29 k2 pr_148721 h1 (by decide) (by decide +kernel) (by decide) (by decide +kernel) (by decide +kernel) (by decide +kernel)
  have k3 : Mul 500000003 2 500000002 := by
    have e : 3362 * 148721 ^ 1 = 500000002 := by decide +kernel
    rw [e] at g3
    exact g3
  exact Mul.prime k3 (by decide) (by decide) h1 (by decide +kernel)
theorem pr_1000000007 : Pr 1000000007 := by
  have h1 : pm 1000000007 30 5 (1000000007 - 1) = 1 := by decide +kernel
  have h0 : Mul 1000000007 5 1 := Mul.one
  have g1 : Mul 1000000007 5 (1 * 2 ^ 1) := Mul.step 2 1 1000000006 30 h0 pr_2 h1 (by decide) (by decide +kernel) (by decide) (by decide +kernel) (by decide +kernel) (by decide +kernel)
  have k1 : Mul 1000000007 5 2 := by
    have e : 1 * 2 ^ 1 = 2 := by decide +kernel
    rw [e] at g1
    exact g1
  have g2 : Mul 1000000007 5 (2 * 500000003 ^ 1) := Mul.step 500000003 1 25 30 k1 pr_500000003 h1 (by decide) (by decide +kernel) (by decide) (by decide +kernel) (by decide +kernel) (by decide +kernel)
  have k2 : Mul 1000000007 5 1000000006 := by
    have e : 2 * 500000003 ^ 1 = 1000000006 := by decide +kernel
    rw [e] at g2
    exact g2
  exact Mul.prime k2 (by decide) (by decide) h1 (by decide +kernel)
theorem pr_31 : Pr 31 := pr_trial 6 (by decide) (by decide) (by decide +kernel)
theorem pr_151 : Pr 151 := pr_trial 13 (by decide) (by decide) (by decide +kernel)
theorem pr_2147483647 : Pr 2147483647 := by
  have h1 : pm 2147483647 31 7 (2147483647 - 1) = 1 := by decide +kernel
  have h0 : Mul 2147483647 7 1 := Mul.one
  have g1 : Mul 2147483647 7 (1 * 2 ^ 1) := Mul.step 2 1 2147483646 31 h0 pr_2 h1 (by decide) (by decide +kernel) (by decide) (by decide +kernel) (by decide +kernel) (by decide +kernel)
  have k1 : Mul 2147483647 7 2 := by
    have e : 1 * 2 ^ 1 = 2 := by decide +kernel
    rw [e] at g1
    exact g1
  have g2 : Mul 2147483647 7 (2 * 3 ^ 2) := Mul.step 3 2 1513477735 31 k1 pr_3 h1 (by decide) (by decide +kernel) (by decide) (by decide +kernel) (by decide +kernel) (by decide +kernel)
  have k2 : Mul 2147483647 7 18 := by
    have e : 2 * 3 ^ 2 = 18 := by decide +kernel
    rw [e] at g2
    exact g2
  have g3 : Mul 2147483647 7 (18 * 7 ^ 1) := Mul.step 7 1 1205362885 31 k2 pr_7 h1 (by decide) (by decide +kernel) (by decide) (by decide +kernel) (by decide +kernel) (by decide +kernel)
  have k3 : Mul 2147483647 7 126 := by
    have e : 18 * 7 ^ 1 = 126 := by decide +kernel
    rw [e] at g3
    exact g3
  have g4 : Mul 2147483647 7 (126 * 11 ^ 1) := Mul.step 11 1 1969212174 31 k3 pr_11 h1 (by decide) (by decide +kernel) (by decide) (by decide +kernel) (by decide +kernel) (by decide +kernel)
  have k4 : Mul 2147483647 7 1386 := by
    have e : 126 * 11 ^ 1 = 1386 := by decide +kernel
    rw [e] at g4
    exact g4
  have g5 : Mul 2147483647 7 (1386 * 31 ^ 1) := Mul.step 31 1 512 31 k4 pr_31 h1 (by decide) (by decide +kernel) (by decide) (by decide +kernel) (by decide +kernel) (by decide +kernel)
  have k5 : Mul 2147483647 7 42966 := by
    have e : 1386 * 31 ^ 1 = 42966 := by decide +kernel
    rw [e] at g5
    exact g5
  have g6 : Mul 2147483647 7 (42966 * 151 ^ 1) := Mul.step 151 1 535044134 31 k5 pr_151 h1 (by decide) (by decide +kernel) (by decide) (by decide +kernel) (by decide +kernel) (by decide +kernel)
  have k6 : Mul 2147483647 7 6487866 := by
    have e : 42966 * 151 ^ 1 = 6487866 := by decide +kernel
    rw [e] at g6
    exact g6
  exact Mul.prime k6 (by decide) (by decide) h1 (by decide +kernel)
theorem pr_13 : Pr 13 := pr_trial 4 (by decide) (by decide) (by decide +kernel)
theorem pr_17 : Pr 17 := pr_trial 5 (by decide) (by decide) (by decide +kernel)
theorem pr_29 : Pr 29 := pr_trial 6 (by decide) (by decide) (by decide +kernel)
theorem pr_250049 : Pr 250049 := pr_trial 501 (by decide) (by decide) (by decide +kernel)
theorem pr_26005097 : Pr 26005097 := by
  have h1 : pm 26005097 25 5 (26005097 - 1) = 1 := by decide +kernel
  have h0 : Mul 26005097 5 1 := Mul.one
  have g1 : Mul 26005097 5 (1 * 2 ^ 3) := Mul.step 2 3 26005096 25 h0 pr_2 h1 (by decide) (by decide +kernel) (by decide) (by decide +kernel) (by decide +kernel) (by decide +kernel)
  have k1 : Mul 26005097 5 8 := by
    have e : 1 * 2 ^ 3 = 8 := by decide +kernel
    rw [e] at g1
    exact g1
  have g2 : Mul 26005097 5 (8 * 13 ^ 1) := Mul.step 13 1 14782451 25 k1 pr_13 h1 (by decide) (by decide +kernel) (by decide) (by decide +kernel) (by decide +kernel) (by decide +kernel)
  have k2 : Mul 26005097 5 104 := by
    have e : 8 * 13 ^ 1 = 104 := by decide +kernel
    rw [e] at g2
    exact g2
  have g3 : Mul 26005097 5 (104 * 250049 ^ 1) := Mul.step 250049 1 19154318 25 k2 pr_250049 h1 (by decide) (by decide +kernel) (by decide) (by decide +kernel) (by decide +kernel) (by decide +kernel)
  have k3 : Mul 26005097 5 26005096 := by
    have e : 104 * 250049 ^ 1 = 26005096 := by decide +kernel
    rw [e] at g3
    exact g3
  exact Mul.prime k3 (by decide) (by decide) h1 (by decide +kernel)
theorem pr_1000000000039 : Pr 1000000000039 := by
  have h1 : pm 1000000000039 40 3 (1000000000039 - 1) = 1 := by decide +kernel
  have h0 : Mul 1000000000039 3 1 := Mul.one
  have g1 : Mul 1000000000039 3 (1 * 2 ^ 1) := Mul.step 2 1 1000000000038 40 h0 pr_2 h1 (by decide) (by decide +kernel) (by decide) (by decide +kernel) (by decide +kernel) (by decide +kernel)
  have k1 : Mul 1000000000039 3 2 := by
    have e : 1 * 2 ^ 1 = 2 := by decide +kernel
    rw [e] at g1
    exact g1
  have g2 : Mul 1000000000039 3 (2 * 3 ^ 1) := Mul.step 3 1 929996850258 40 k1 pr_3 h1 (by decide) (by decide +kernel) (by decide) (by decide +kernel) (by decide +kernel) (by decide +kernel)
  have k2 : Mul 1000000000039 3 6 := by
    have e : 2 * 3 ^ 1 = 6 := by decide +kernel
    rw [e] at g2
    exact g2
  have g3 : Mul 1000000000039 3 (6 * 13 ^ 1) := Mul.step 13 1 535097948863 40 k2 pr_13 h1 (by decide) (by decide +kernel) (by decide) (by decide +kernel) (by decide +kernel) (by decide +kernel)
  have k3 : Mul 1000000000039 3 78 := by
    have e : 6 * 13 ^ 1 = 78 := by decide +kernel
    rw [e] at g3
    exact g3
  have g4 : Mul 1000000000039 3 (78 * 17 ^ 1) := Mul.step 17 1 590809086433 40 k3 pr_17 h1 (by decide) (by decide +kernel) (by decide) (by decide +kernel) (by decide +kernel) (by decide +kernel)
  have k4 : Mul 1000000000039 3 1326 := by
    have e : 78 * 17 ^ 1 = 1326 := by decide +kernel
    rw [e] at g4
    exact g4
  have g5 : Mul 1000000000039 3 (1326 * 29 ^ 1) := Mul.step 29 1 372904237230 40 k4 pr_29 h1 (by decide) (by decide +kernel) (by decide) (by decide +kernel) (by decide +kernel) (by decide +kernel)
  have k5 : Mul 1000000000039 3 38454 := by
    have e : 1326 * 29 ^ 1 = 38454 := by decide +kernel
    rw [e] at g5
    exact g5
  have g6 : Mul 1000000000039 3 (38454 * 26005097 ^ 1) := Mul.step 26005097 1 125222632149 40 k5 pr_26005097 h1 (by decide) (by decide +kernel) (by decide) (by decide +kernel) (by decide +kernel) (by decide +kernel)
  have k6 : Mul 1000000000039 3 1000000000038 := by
    have e : 38454 * 26005097 ^ 1 = 1000000000038 := by decide +kernel
    rw [e] at g6
    exact g6
  exact Mul.prime k6 (by decide) (by decide) h1 (by decide +kernel)
theorem pr_131 : Pr 131 := pr_trial 12 (by decide) (by decide) (by decide +kernel)
theorem pr_1427 : Pr 1427 := pr_trial 38 (by decide) (by decide) (by decide +kernel)
theorem pr_53 : Pr 53 := pr_trial 8 (by decide) (by decide) (by decide +kernel)
theorem pr_234931 : Pr 234931 := pr_trial 485 (by decide) (by decide) (by decide +kernel)
theorem pr_8740842787 : Pr 8740842787 := by
  have h1 : pm 8740842787 34 2 (8740842787 - 1) = 1 := by decide +kernel
  have h0 : Mul 8740842787 2 1 := Mul.one
  have g1 : Mul 8740842787 2 (1 * 2 ^ 1) := Mul.step 2 1 8740842786 34 h0 pr_2 h1 (by decide) (by decide +kernel) (by decide) (by decide +kernel) (by decide +kernel) (by decide +kernel)
  have k1 : Mul 8740842787 2 2 := by
    have e : 1 * 2 ^ 1 = 2 := by decide +kernel
    rw [e] at g1
    exact g1
  have g2 : Mul 8740842787 2 (2 * 3 ^ 3) := Mul.step 3 3 767969283 34 k1 pr_3 h1 (by decide) (by decide +kernel) (by decide) (by decide +kernel) (by decide +kernel) (by decide +kernel)
  have k2 : Mul 8740842787 2 54 := by
    have e : 2 * 3 ^ 3 = 54 := by decide +kernel
    rw [e] at g2
    exact g2
  have g3 : Mul 8740842787 2 (54 * 13 ^ 1) := Mul.step 13 1 5981893498 34 k2 pr_13 h1 (by decide) (by decide +kernel) (by decide) (by decide +kernel) (by decide +kernel) (by decide +kernel)
  have k3 : Mul 8740842787 2 702 := by
    have e : 54 * 13 ^ 1 = 702 := by decide +kernel
    rw [e] at g3
    exact g3
  have g4 : Mul 8740842787 2 (702 * 53 ^ 1) := Mul.step 53 1 2018357810 34 k3 pr_53 h1 (by decide) (by decide +kernel) (by decide) (by decide +kernel) (by decide +kernel) (by decide +kernel)
  have k4 : Mul 8740842787 2 37206 := by
    have e : 702 * 53 ^ 1 = 37206 := by decide +kernel
    rw [e] at g4
    exact g4
  have g5 : Mul 8740842787 2 (37206 * 234931 ^ 1) := Mul.step 234931 1 6692626204 34 k4 pr_234931 h1 (by decide) (by decide +kernel) (by decide) (by decide +kernel) (by decide +kernel) (by decide +kernel)
  have k5 : Mul 8740842787 2 8740842786 := by
    have e : 37206 * 234931 ^ 1 = 8740842786 := by decide +kernel
    rw [e] at g5
    exact g5
  exact Mul.prime k5 (by decide) (by decide) h1 (by decide +kernel)
theorem pr_52445056723 : Pr 52445056723 := by
  have h1 : pm 52445056723 36 11 (52445056723 - 1) = 1 := by decide +kernel
  have h0 : Mul 52445056723 11 1 := Mul.one
  have g1 : Mul 52445056723 11 (1 * 2 ^ 1) := Mul.step 2 1 52445056722 36 h0 pr_2 h1 (by decide) (by decide +kernel) (by decide) (by decide +kernel) (by decide +kernel) (by decide +kernel)
  have k1 : Mul 52445056723 11 2 := by
    have e : 1 * 2 ^ 1 = 2 := by decide +kernel
    rw [e] at g1
    exact g1
  have g2 : Mul 52445056723 11 (2 * 3 ^ 1) := Mul.step 3 1 10394799839 36 k1 pr_3 h1 (by decide) (by decide +kernel) (by decide) (by decide +kernel) (by decide +kernel) (by decide +kernel)
  have k2 : Mul 52445056723 11 6 := by
    have e : 2 * 3 ^ 1 = 6 := by decide +kernel
    rw [e] at g2
    exact g2
  have g3 : Mul 52445056723 11 (6 * 8740842787 ^ 1) := Mul.step 8740842787 1 1771561 36 k2 pr_8740842787 h1 (by decide) (by decide +kernel) (by decide) (by decide +kernel) (by decide +kernel) (by decide +kernel)
  have k3 : Mul 52445056723 11 52445056722 := by
    have e : 6 * 8740842787 ^ 1 = 52445056722 := by decide +kernel
    rw [e] at g3
    exact g3
  exact Mul.prime k3 (by decide) (by decide) h1 (by decide +kernel)
theorem pr_1000000000000000003 : Pr 1000000000000000003 := by
  have h1 : pm 1000000000000000003 60 2 (1000000000000000003 - 1) = 1 := by decide +kernel
  have h0 : Mul 1000000000000000003 2 1 := Mul.one
  have g1 : Mul 1000000000000000003 2 (1 * 2 ^ 1) := Mul.step 2 1 1000000000000000002 60 h0 pr_2 h1 (by decide) (by decide +kernel) (by decide) (by decide +kernel) (by decide +kernel) (by decide +kernel)
  have k1 : Mul 1000000000000000003 2 2 := by
    have e : 1 * 2 ^ 1 = 2 := by decide +kernel
    rw [e] at g1
    exact g1
  have g2 : Mul 1000000000000000003 2 (2 * 3 ^ 1) := Mul.step 3 1 499999999500000001 60 k1 pr_3 h1 (by decide) (by decide +kernel) (by decide) (by decide +kernel) (by decide +kernel) (by decide +kernel)
  have k2 : Mul 1000000000000000003 2 6 := by
    have e : 2 * 3 ^ 1 = 6 := by decide +kernel
    rw [e] at g2
    exact g2
  have g3 : Mul 1000000000000000003 2 (6 * 17 ^ 1) := Mul.step 17 1 594162475312840939 60 k2 pr_17 h1 (by decide) (by decide +kernel) (by decide) (by decide +kernel) (by decide +kernel) (by decide +kernel)
  have k3 : Mul 1000000000000000003 2 102 := by
    have e : 6 * 17 ^ 1 = 102 := by decide +kernel
    rw [e] at g3
    exact g3
  have g4 : Mul 1000000000000000003 2 (102 * 131 ^ 1) := Mul.step 131 1 612361696629028658 60 k3 pr_131 h1 (by decide) (by decide +kernel) (by decide) (by decide +kernel) (by decide +kernel) (by decide +kernel)
  have k4 : Mul 1000000000000000003 2 13362 := by
    have e : 102 * 131 ^ 1 = 13362 := by decide +kernel
    rw [e] at g4
    exact g4
  have g5 : Mul 1000000000000000003 2 (13362 * 1427 ^ 1) := Mul.step 1427 1 513951916627139555 60 k4 pr_1427 h1 (by decide) (by decide +kernel) (by decide) (by decide +kernel) (by decide +kernel) (by decide +kernel)
  have k5 : Mul 1000000000000000003 2 19067574 := by
    have e : 13362 * 1427 ^ 1 = 19067574 := by decide +kernel
    rw [e] at g5
    exact g5
  have g6 : Mul 1000000000000000003 2 (19067574 * 52445056723 ^ 1) := Mul.step 52445056723 1 988224617572240685 60 k5 pr_52445056723 h1 (by decide) (by decide +kernel) (by decide) (by decide +kernel) (by decide +kernel) (by decide +kernel)
  have k6 : Mul 1000000000000000003 2 1000000000000000002 := by
    have e : 19067574 * 52445056723 ^ 1 = 1000000000000000002 := by decide +kernel
    rw [e] at g6
    exact g6
  exact Mul.prime k6 (by decide) (by decide) h1 (by decide +kernel)
theorem pr_137 : Pr 137 := pr_trial 12 (by decide) (by decide) (by decide +kernel)
theorem pr_547 : Pr 547 := pr_trial 24 (by decide) (by decide) (by decide +kernel)
theorem pr_2131 : Pr 2131 := pr_trial 47 (by decide) (by decide) (by decide +kernel)
theorem pr_5594472617641 : Pr 5594472617641 := by
  have h1 : pm 5594472617641 43 13 (5594472617641 - 1) = 1 := by decide +kernel
  have h0 : Mul 5594472617641 13 1 := Mul.one
  have g1 : Mul 5594472617641 13 (1 * 2 ^ 3) := Mul.step 2 3 5594472617640 43 h0 pr_2 h1 (by decide) (by decide +kernel) (by decide) (by decide +kernel) (by decide +kernel) (by decide +kernel)
  have k1 : Mul 5594472617641 13 8 := by
    have e : 1 * 2 ^ 3 = 8 := by decide +kernel
    rw [e] at g1
    exact g1
  have g2 : Mul 5594472617641 13 (8 * 3 ^ 1) := Mul.step 3 1 633520002390 43 k1 pr_3 h1 (by decide) (by decide +kernel) (by decide) (by decide +kernel) (by decide +kernel) (by decide +kernel)
  have k2 : Mul 5594472617641 13 24 := by
    have e : 8 * 3 ^ 1 = 24 := by decide +kernel
    rw [e] at g2
    exact g2
  have g3 : Mul 5594472617641 13 (24 * 5 ^ 1) := Mul.step 5 1 5539104407118 43 k2 pr_5 h1 (by decide) (by decide +kernel) (by decide) (by decide +kernel) (by decide +kernel) (by decide +kernel)
  have k3 : Mul 5594472617641 13 120 := by
    have e : 24 * 5 ^ 1 = 120 := by decide +kernel
    rw [e] at g3
    exact g3
  have g4 : Mul 5594472617641 13 (120 * 1427 ^ 1) := Mul.step 1427 1 693744849281 43 k3 pr_1427 h1 (by decide) (by decide +kernel) (by decide) (by decide +kernel) (by decide +kernel) (by decide +kernel)
  have k4 : Mul 5594472617641 13 171240 := by
    have e : 120 * 1427 ^ 1 = 171240 := by decide +kernel
    rw [e] at g4
    exact g4
  have g5 : Mul 5594472617641 13 (171240 * 2131 ^ 1) := Mul.step 2131 1 2614630137118 43 k4 pr_2131 h1 (by decide) (by decide +kernel) (by decide) (by decide +kernel) (by decide +kernel) (by decide +kernel)
  have k5 : Mul 5594472617641 13 364912440 := by
    have e : 171240 * 2131 ^ 1 = 364912440 := by decide +kernel
    rw [e] at g5
    exact g5
  exact Mul.prime k5 (by decide) (by decide) h1 (by decide +kernel)
theorem pr_18446744073709551557 : Pr 18446744073709551557 := by
  have h1 : pm 18446744073709551557 64 2 (18446744073709551557 - 1) = 1 := by decide +kernel
  have h0 : Mul 18446744073709551557 2 1 := Mul.one
  have g1 : Mul 18446744073709551557 2 (1 * 2 ^ 2) := Mul.step 2 2 18446744073709551556 64 h0 pr_2 h1 (by decide) (by decide +kernel) (by decide) (by decide +kernel) (by decide +kernel) (by decide +kernel)
  have k1 : Mul 18446744073709551557 2 4 := by
    have e : 1 * 2 ^ 2 = 4 := by decide +kernel
    rw [e] at g1
    exact g1
  have g2 : Mul 18446744073709551557 2 (4 * 11 ^ 1) := Mul.step 11 1 7233656613878036887 64 k1 pr_11 h1 (by decide) (by decide +kernel) (by decide) (by decide +kernel) (by decide +kernel) (by decide +kernel)
  have k2 : Mul 18446744073709551557 2 44 := by
    have e : 4 * 11 ^ 1 = 44 := by decide +kernel
    rw [e] at g2
    exact g2
  have g3 : Mul 18446744073709551557 2 (44 * 137 ^ 1) := Mul.step 137 1 808296807897363856 64 k2 pr_137 h1 (by decide) (by decide +kernel) (by decide) (by decide +kernel) (by decide +kernel) (by decide +kernel)
  have k3 : Mul 18446744073709551557 2 6028 := by
    have e : 44 * 137 ^ 1 = 6028 := by decide +kernel
    rw [e] at g3
    exact g3
  have g4 : Mul 18446744073709551557 2 (6028 * 547 ^ 1) := Mul.step 547 1 16285151747536493802 64 k3 pr_547 h1 (by decide) (by decide +kernel) (by decide) (by decide +kernel) (by decide +kernel) (by decide +kernel)
  have k4 : Mul 18446744073709551557 2 3297316 := by
    have e : 6028 * 547 ^ 1 = 3297316 := by decide +kernel
    rw [e] at g4
    exact g4
  have g5 : Mul 18446744073709551557 2 (3297316 * 5594472617641 ^ 1) := Mul.step 5594472617641 1 11493017446059487016 64 k4 pr_5594472617641 h1 (by decide) (by decide +kernel) (by decide) (by decide +kernel) (by decide +kernel) (by decide +kernel)
  have k5 : Mul 18446744073709551557 2 18446744073709551556 := by
    have e : 3297316 * 5594472617641 ^ 1 = 18446744073709551556 := by decide +kernel
    rw [e] at g5
    exact g5
  exact Mul.prime k5 (by decide) (by decide) h1 (by decide +kernel)
theorem pr_61 : Pr 61 := pr_trial 8 (by decide) (by decide) (by decide +kernel)
theorem pr_2305843009213693951 : Pr 2305843009213693951 := by
  have h1 : pm 2305843009213693951 61 29 (2305843009213693951 - 1) = 1 := by decide +kernel
  have h0 : Mul 2305843009213693951 29 1 := Mul.one
  have g1 : Mul 2305843009213693951 29 (1 * 2 ^ 1) := Mul.step 2 1 2305843009213693950 61 h0 pr_2 h1 (by decide) (by decide +kernel) (by decide) (by decide +kernel) (by decide +kernel) (by decide +kernel)
  have k1 : Mul 2305843009213693951 29 2 := by
    have e : 1 * 2 ^ 1 = 2 := by decide +kernel
    rw [e] at g1
    exact g1
  have g2 : Mul 2305843009213693951 29 (2 * 3 ^ 2) := Mul.step 3 2 1669582390241348315 61 k1 pr_3 h1 (by decide) (by decide +kernel) (by decide) (by decide +kernel) (by decide +kernel) (by decide +kernel)
  have k2 : Mul 2305843009213693951 29 18 := by
    have e : 2 * 3 ^ 2 = 18 := by decide +kernel
    rw [e] at g2
    exact g2
  have g3 : Mul 2305843009213693951 29 (18 * 5 ^ 2) := Mul.step 5 2 1910184110508252890 61 k2 pr_5 h1 (by decide) (by decide +kernel) (by decide) (by decide +kernel) (by decide +kernel) (by decide +kernel)
  have k3 : Mul 2305843009213693951 29 450 := by
    have e : 18 * 5 ^ 2 = 450 := by decide +kernel
    rw [e] at g3
    exact g3
  have g4 : Mul 2305843009213693951 29 (450 * 7 ^ 1) := Mul.step 7 1 141315603963882618 61 k3 pr_7 h1 (by decide) (by decide +kernel) (by decide) (by decide +kernel) (by decide +kernel) (by decide +kernel)
  have k4 : Mul 2305843009213693951 29 3150 := by
    have e : 450 * 7 ^ 1 = 3150 := by decide +kernel
    rw [e] at g4
    exact g4
  have g5 : Mul 2305843009213693951 29 (3150 * 11 ^ 1) := Mul.step 11 1 1798031321018017002 61 k4 pr_11 h1 (by decide) (by decide +kernel) (by decide) (by decide +kernel) (by decide +kernel) (by decide +kernel)
  have k5 : Mul 2305843009213693951 29 34650 := by
    have e : 3150 * 11 ^ 1 = 34650 := by decide +kernel
    rw [e] at g5
    exact g5
  have g6 : Mul 2305843009213693951 29 (34650 * 13 ^ 1) := Mul.step 13 1 860299368605487250 61 k5 pr_13 h1 (by decide) (by decide +kernel) (by decide) (by decide +kernel) (by decide +kernel) (by decide +kernel)
  have k6 : Mul 2305843009213693951 29 450450 := by
    have e : 34650 * 13 ^ 1 = 450450 := by decide +kernel
    rw [e] at g6
    exact g6
  have g7 : Mul 2305843009213693951 29 (450450 * 31 ^ 1) := Mul.step 31 1 2202494457078178713 61 k6 pr_31 h1 (by decide) (by decide +kernel) (by decide) (by decide +kernel) (by decide +kernel) (by decide +kernel)
  have k7 : Mul 2305843009213693951 29 13963950 := by
    have e : 450450 * 31 ^ 1 = 13963950 := by decide +kernel
    rw [e] at g7
    exact g7
  have g8 : Mul 2305843009213693951 29 (13963950 * 41 ^ 1) := Mul.step 41 1 1436611179610597071 61 k7 pr_41 h1 (by decide) (by decide +kernel) (by decide) (by decide +kernel) (by decide +kernel) (by decide +kernel)
  have k8 : Mul 2305843009213693951 29 572521950 := by
    have e : 13963950 * 41 ^ 1 = 572521950 := by decide +kernel
    rw [e] at g8
    exact g8
  have g9 : Mul 2305843009213693951 29 (572521950 * 61 ^ 1) := Mul.step 61 1 32768 61 k8 pr_61 h1 (by decide) (by decide +kernel) (by decide) (by decide +kernel) (by decide +kernel) (by decide +kernel)
  have k9 : Mul 2305843009213693951 29 34923838950 := by
    have e : 572521950 * 61 ^ 1 = 34923838950 := by decide +kernel
    rw [e] at g9
    exact g9
  exact Mul.prime k9 (by decide) (by decide) h1 (by decide +kernel)
theorem pr_23 : Pr 23 := pr_trial 5 (by decide) (by decide) (by decide +kernel)
theorem pr_89 : Pr 89 := pr_trial 10 (by decide) (by decide) (by decide +kernel)
theorem pr_353 : Pr 353 := pr_trial 19 (by decide) (by decide) (by decide +kernel)
theorem pr_397 : Pr 397 := pr_trial 20 (by decide) (by decide) (by decide +kernel)
theorem pr_683 : Pr 683 := pr_trial 27 (by decide) (by decide) (by decide +kernel)
theorem pr_618970019642690137449562111 : Pr 618970019642690137449562111 := by
  have h1 : pm 618970019642690137449562111 89 3 (618970019642690137449562111 - 1) = 1 := by decide +kernel
  have h0 : Mul 618970019642690137449562111 3 1 := Mul.one
  have g1 : Mul 618970019642690137449562111 3 (1 * 2 ^ 1) := Mul.step 2 1 618970019642690137449562110 89 h0 pr_2 h1 (by decide) (by decide +kernel) (by decide) (by decide +kernel) (by decide +kernel) (by decide +kernel)
  have k1 : Mul 618970019642690137449562111 3 2 := by
    have e : 1 * 2 ^ 1 = 2 := by decide +kernel
    rw [e] at g1
    exact g1
  have g2 : Mul 618970019642690137449562111 3 (2 * 3 ^ 1) := Mul.step 3 1 336613708613458226376707101 89 k1 pr_3 h1 (by decide) (by decide +kernel) (by decide) (by decide +kernel) (by decide +kernel) (by decide +kernel)
  have k2 : Mul 618970019642690137449562111 3 6 := by
    have e : 2 * 3 ^ 1 = 6 := by decide +kernel
    rw [e] at g2
    exact g2
  have g3 : Mul 618970019642690137449562111 3 (6 * 5 ^ 1) := Mul.step 5 1 406600421472621888393207950 89 k2 pr_5 h1 (by decide) (by decide +kernel) (by decide) (by decide +kernel) (by decide +kernel) (by decide +kernel)
  have k3 : Mul 618970019642690137449562111 3 30 := by
    have e : 6 * 5 ^ 1 = 30 := by decide +kernel
    rw [e] at g3
    exact g3
  have g4 : Mul 618970019642690137449562111 3 (30 * 17 ^ 1) := Mul.step 17 1 495472515561347599121466276 89 k3 pr_17 h1 (by decide) (by decide +kernel) (by decide) (by decide +kernel) (by decide +kernel) (by decide +kernel)
  have k4 : Mul 618970019642690137449562111 3 510 := by
    have e : 30 * 17 ^ 1 = 510 := by decide +kernel
    rw [e] at g4
    exact g4
  have g5 : Mul 618970019642690137449562111 3 (510 * 23 ^ 1) := Mul.step 23 1 55893770456048838521560241 89 k4 pr_23 h1 (by decide) (by decide +kernel) (by decide) (by decide +kernel) (by decide +kernel) (by decide +kernel)
  have k5 : Mul 618970019642690137449562111 3 11730 := by
    have e : 510 * 23 ^ 1 = 11730 := by decide +kernel
    rw [e] at g5
    exact g5
  have g6 : Mul 618970019642690137449562111 3 (11730 * 89 ^ 1) := Mul.step 89 1 68719476736 89 k5 pr_89 h1 (by decide) (by decide +kernel) (by decide) (by decide +kernel) (by decide +kernel) (by decide +kernel)
  have k6 : Mul 618970019642690137449562111 3 1043970 := by
    have e : 11730 * 89 ^ 1 = 1043970 := by decide +kernel
    rw [e] at g6
    exact g6
  have g7 : Mul 618970019642690137449562111 3 (1043970 * 353 ^ 1) := Mul.step 353 1 516937222276798340129650871 89 k6 pr_353 h1 (by decide) (by decide +kernel) (by decide) (by decide +kernel) (by decide +kernel) (by decide +kernel)
  have k7 : Mul 618970019642690137449562111 3 368521410 := by
    have e : 1043970 * 353 ^ 1 = 368521410 := by decide +kernel
    rw [e] at g7
    exact g7
  have g8 : Mul 618970019642690137449562111 3 (368521410 * 397 ^ 1) := Mul.step 397 1 215970975564044759200407014 89 k7 pr_397 h1 (by decide) (by decide +kernel) (by decide) (by decide +kernel) (by decide +kernel) (by decide +kernel)
  have k8 : Mul 618970019642690137449562111 3 146302999770 := by
    have e : 368521410 * 397 ^ 1 = 146302999770 := by decide +kernel
    rw [e] at g8
    exact g8
  have g9 : Mul 618970019642690137449562111 3 (146302999770 * 683 ^ 1) := Mul.step 683 1 377320015825939257477971600 89 k8 pr_683 h1 (by decide) (by decide +kernel) (by decide) (by decide +kernel) (by decide +kernel) (by decide +kernel)
  have k9 : Mul 618970019642690137449562111 3 99924948842910 := by
    have e : 146302999770 * 683 ^ 1 = 99924948842910 := by decide +kernel
    rw [e] at g9
    exact g9
  exact Mul.prime k9 (by decide) (by decide) h1 (by decide +kernel)
theorem pr_107 : Pr 107 := pr_trial 11 (by decide) (by decide) (by decide +kernel)
theorem pr_6361 : Pr 6361 := pr_trial 80 (by decide) (by decide) (by decide +kernel)
theorem pr_69431 : Pr 69431 := pr_trial 264 (by decide) (by decide) (by decide +kernel)
theorem pr_20394401 : Pr 20394401 := by
  have h1 : pm 20394401 25 3 (20394401 - 1) = 1 := by decide +kernel
  have h0 : Mul 20394401 3 1 := Mul.one
  have g1 : Mul 20394401 3 (1 * 2 ^ 5) := Mul.step 2 5 20394400 25 h0 pr_2 h1 (by decide) (by decide +kernel) (by decide) (by decide +kernel) (by decide +kernel) (by decide +kernel)
  have k1 : Mul 20394401 3 32 := by
    have e : 1 * 2 ^ 5 = 32 := by decide +kernel
    rw [e] at g1
    exact g1
  have g2 : Mul 20394401 3 (32 * 5 ^ 2) := Mul.step 5 2 19521319 25 k1 pr_5 h1 (by decide) (by decide +kernel) (by decide) (by decide +kernel) (by decide +kernel) (by decide +kernel)
  have k2 : Mul 20394401 3 800 := by
    have e : 32 * 5 ^ 2 = 800 := by decide +kernel
    rw [e] at g2
    exact g2
  have g3 : Mul 20394401 3 (800 * 13 ^ 1) := Mul.step 13 1 14223191 25 k2 pr_13 h1 (by decide) (by decide +kernel) (by decide) (by decide +kernel) (by decide +kernel) (by decide +kernel)
  have k3 : Mul 20394401 3 10400 := by
    have e : 800 * 13 ^ 1 = 10400 := by decide +kernel
    rw [e] at g3
    exact g3
  exact Mul.prime k3 (by decide) (by decide) h1 (by decide +kernel)
theorem pr_162259276829213363391578010288127 : Pr 162259276829213363391578010288127 := by
  have h1 : pm 162259276829213363391578010288127 107 3 (162259276829213363391578010288127 - 1) = 1 := by decide +kernel
  have h0 : Mul 162259276829213363391578010288127 3 1 := Mul.one
  have g1 : Mul 162259276829213363391578010288127 3 (1 * 2 ^ 1) := Mul.step 2 1 162259276829213363391578010288126 107 h0 pr_2 h1 (by decide) (by decide +kernel) (by decide) (by decide +kernel) (by decide +kernel) (by decide +kernel)
  have k1 : Mul 162259276829213363391578010288127 3 2 := by
    have e : 1 * 2 ^ 1 = 2 := by decide +kernel
    rw [e] at g1
    exact g1
  have g2 : Mul 162259276829213363391578010288127 3 (2 * 3 ^ 1) := Mul.step 3 1 45712344806941642417729454041535 107 k1 pr_3 h1 (by decide) (by decide +kernel) (by decide) (by decide +kernel) (by decide +kernel) (by decide +kernel)
  have k2 : Mul 162259276829213363391578010288127 3 6 := by
    have e : 2 * 3 ^ 1 = 6 := by decide +kernel
    rw [e] at g2
    exact g2
  have g3 : Mul 162259276829213363391578010288127 3 (6 * 107 ^ 1) := Mul.step 107 1 1099511627776 107 k2 pr_107 h1 (by decide) (by decide +kernel) (by decide) (by decide +kernel) (by decide +kernel) (by decide +kernel)
  have k3 : Mul 162259276829213363391578010288127 3 642 := by
    have e : 6 * 107 ^ 1 = 642 := by decide +kernel
    rw [e] at g3
    exact g3
  have g4 : Mul 162259276829213363391578010288127 3 (642 * 6361 ^ 1) := Mul.step 6361 1 149853311463636685908675019917287 107 k3 pr_6361 h1 (by decide) (by decide +kernel) (by decide) (by decide +kernel) (by decide +kernel) (by decide +kernel)
  have k4 : Mul 162259276829213363391578010288127 3 4083762 := by
    have e : 642 * 6361 ^ 1 = 4083762 := by decide +kernel
    rw [e] at g4
    exact g4
  have g5 : Mul 162259276829213363391578010288127 3 (4083762 * 69431 ^ 1) := Mul.step 69431 1 100225490385472504034368728521363 107 k4 pr_69431 h1 (by decide) (by decide +kernel) (by decide) (by decide +kernel) (by decide +kernel) (by decide +kernel)
  have k5 : Mul 162259276829213363391578010288127 3 283539679422 := by
    have e : 4083762 * 69431 ^ 1 = 283539679422 := by decide +kernel
    rw [e] at g5
    exact g5
  have g6 : Mul 162259276829213363391578010288127 3 (283539679422 * 20394401 ^ 1) := Mul.step 20394401 1 150682381933354112977215197598613 107 k5 pr_20394401 h1 (by decide) (by decide +kernel) (by decide) (by decide +kernel) (by decide +kernel) (by decide +kernel)
  have k6 : Mul 162259276829213363391578010288127 3 5782621921543716222 := by
    have e : 283539679422 * 20394401 ^ 1 = 5782621921543716222 := by decide +kernel
    rw [e] at g6
    exact g6
  exact Mul.prime k6 (by decide) (by decide) h1 (by decide +kernel)
theorem pr_19 : Pr 19 := pr_trial 5 (by decide) (by decide) (by decide +kernel)
theorem pr_43 : Pr 43 := pr_trial 7 (by decide) (by decide) (by decide +kernel)
theorem pr_73 : Pr 73 := pr_trial 9 (by decide) (by decide) (by decide +kernel)
theorem pr_127 : Pr 127 := pr_trial 12 (by decide) (by decide) (by decide +kernel)
theorem pr_337 : Pr 337 := pr_trial 19 (by decide) (by decide) (by decide +kernel)
theorem pr_5419 : Pr 5419 := pr_trial 74 (by decide) (by decide) (by decide +kernel)
theorem pr_92737 : Pr 92737 := pr_trial 305 (by decide) (by decide) (by decide +kernel)
theorem pr_170141183460469231731687303715884105727 : Pr 170141183460469231731687303715884105727 := by
  have h1 : pm 170141183460469231731687303715884105727 127 43 (170141183460469231731687303715884105727 - 1) = 1 := by decide +kernel
  have h0 : Mul 170141183460469231731687303715884105727 43 1 := Mul.one
  have g1 : Mul 170141183460469231731687303715884105727 43 (1 * 2 ^ 1) := Mul.step 2 1 170141183460469231731687303715884105726 127 h0 pr_2 h1 (by decide) (by decide +kernel) (by decide) (by decide +kernel) (by decide +kernel) (by decide +kernel)
  have k1 : Mul 170141183460469231731687303715884105727 43 2 := by
    have e : 1 * 2 ^ 1 = 2 := by decide +kernel
    rw [e] at g1
    exact g1
  have g2 : Mul 170141183460469231731687303715884105727 43 (2 * 3 ^ 3) := Mul.step 3 3 45732286665397639494243842614078445557 127 k1 pr_3 h1 (by decide) (by decide +kernel) (by decide) (by decide +kernel) (by decide +kernel) (by decide +kernel)
  have k2 : Mul 170141183460469231731687303715884105727 43 54 := by
    have e : 2 * 3 ^ 3 = 54 := by decide +kernel
    rw [e] at g2
    exact g2
  have g3 : Mul 170141183460469231731687303715884105727 43 (54 * 7 ^ 2) := Mul.step 7 2 140288290858193893367233929291106695296 127 k2 pr_7 h1 (by decide) (by decide +kernel) (by decide) (by decide +kernel) (by decide +kernel) (by decide +kernel)
  have k3 : Mul 170141183460469231731687303715884105727 43 2646 := by
    have e : 54 * 7 ^ 2 = 2646 := by decide +kernel
    rw [e] at g3
    exact g3
  have g4 : Mul 170141183460469231731687303715884105727 43 (2646 * 19 ^ 1) := Mul.step 19 1 135637860480549721617051963495725392232 127 k3 pr_19 h1 (by decide) (by decide +kernel) (by decide) (by decide +kernel) (by decide +kernel) (by decide +kernel)
  have k4 : Mul 170141183460469231731687303715884105727 43 50274 := by
    have e : 2646 * 19 ^ 1 = 50274 := by decide +kernel
    rw [e] at g4
    exact g4
  have g5 : Mul 170141183460469231731687303715884105727 43 (50274 * 43 ^ 1) := Mul.step 43 1 88774862635528948722075669308649704181 127 k4 pr_43 h1 (by decide) (by decide +kernel) (by decide) (by decide +kernel) (by decide +kernel) (by decide +kernel)
  have k5 : Mul 170141183460469231731687303715884105727 43 2161782 := by
    have e : 50274 * 43 ^ 1 = 2161782 := by decide +kernel
    rw [e] at g5
    exact g5
  have g6 : Mul 170141183460469231731687303715884105727 43 (2161782 * 73 ^ 1) := Mul.step 73 1 56792469864250676510438613997511014270 127 k5 pr_73 h1 (by decide) (by decide +kernel) (by decide) (by decide +kernel) (by decide +kernel) (by decide +kernel)
  have k6 : Mul 170141183460469231731687303715884105727 43 157810086 := by
    have e : 2161782 * 73 ^ 1 = 157810086 := by decide +kernel
    rw [e] at g6
    exact g6
  have g7 : Mul 170141183460469231731687303715884105727 43 (157810086 * 127 ^ 1) := Mul.step 127 1 309485009821345068724781056 127 k6 pr_127 h1 (by decide) (by decide +kernel) (by decide) (by decide +kernel) (by decide +kernel) (by decide +kernel)
  have k7 : Mul 170141183460469231731687303715884105727 43 20041880922 := by
    have e : 157810086 * 127 ^ 1 = 20041880922 := by decide +kernel
    rw [e] at g7
    exact g7
  have g8 : Mul 170141183460469231731687303715884105727 43 (20041880922 * 337 ^ 1) := Mul.step 337 1 100565539022940935462077851107895828379 127 k7 pr_337 h1 (by decide) (by decide +kernel) (by decide) (by decide +kernel) (by decide +kernel) (by decide +kernel)
  have k8 : Mul 170141183460469231731687303715884105727 43 6754113870714 := by
    have e : 20041880922 * 337 ^ 1 = 6754113870714 := by decide +kernel
    rw [e] at g8
    exact g8
  have g9 : Mul 170141183460469231731687303715884105727 43 (6754113870714 * 5419 ^ 1) := Mul.step 5419 1 50495238238025519279885904268452502600 127 k8 pr_5419 h1 (by decide) (by decide +kernel) (by decide) (by decide +kernel) (by decide +kernel) (by decide +kernel)
  have k9 : Mul 170141183460469231731687303715884105727 43 36600543065399166 := by
    have e : 6754113870714 * 5419 ^ 1 = 36600543065399166 := by decide +kernel
    rw [e] at g9
    exact g9
  have g10 : Mul 170141183460469231731687303715884105727 43 (36600543065399166 * 92737 ^ 1) := Mul.step 92737 1 10505919411115761463603776916828528380 127 k9 pr_92737 h1 (by decide) (by decide +kernel) (by decide) (by decide +kernel) (by decide +kernel) (by decide +kernel)
  have k10 : Mul 170141183460469231731687303715884105727 43 3394224562255922457342 := by
    have e : 36600543065399166 * 92737 ^ 1 = 3394224562255922457342 := by decide +kernel
    rw [e] at g10
    exact g10
  exact Mul.prime k10 (by decide) (by decide) h1 (by decide +kernel)
theorem pr_109 : Pr 109 := pr_trial 11 (by decide) (by decide) (by decide +kernel)
theorem pr_2777 : Pr 2777 := pr_trial 53 (by decide) (by decide) (by decide +kernel)
theorem pr_1905023 : Pr 1905023 := by
  have h1 : pm 1905023 21 5 (1905023 - 1) = 1 := by decide +kernel
  have h0 : Mul 1905023 5 1 := Mul.one
  have g1 : Mul 1905023 5 (1 * 2 ^ 1) := Mul.step 2 1 1905022 21 h0 pr_2 h1 (by decide) (by decide +kernel) (by decide) (by decide +kernel) (by decide +kernel) (by decide +kernel)
  have k1 : Mul 1905023 5 2 := by
    have e : 1 * 2 ^ 1 = 2 := by decide +kernel
    rw [e] at g1
    exact g1
  have g2 : Mul 1905023 5 (2 * 7 ^ 3) := Mul.step 7 3 1020647 21 k1 pr_7 h1 (by decide) (by decide +kernel) (by decide) (by decide +kernel) (by decide +kernel) (by decide +kernel)
  have k2 : Mul 1905023 5 686 := by
    have e : 2 * 7 ^ 3 = 686 := by decide +kernel
    rw [e] at g2
    exact g2
  have g3 : Mul 1905023 5 (686 * 2777 ^ 1) := Mul.step 2777 1 1544272 21 k2 pr_2777 h1 (by decide) (by decide +kernel) (by decide) (by decide +kernel) (by decide +kernel) (by decide +kernel)
  have k3 : Mul 1905023 5 1905022 := by
    have e : 686 * 2777 ^ 1 = 1905022 := by decide +kernel
    rw [e] at g3
    exact g3
  exact Mul.prime k3 (by decide) (by decide) h1 (by decide +kernel)
theorem pr_3810047 : Pr 3810047 := by
  have h1 : pm 3810047 22 5 (3810047 - 1) = 1 := by decide +kernel
  have h0 : Mul 3810047 5 1 := Mul.one
  have g1 : Mul 3810047 5 (1 * 2 ^ 1) := Mul.step 2 1 3810046 22 h0 pr_2 h1 (by decide) (by decide +kernel) (by decide) (by decide +kernel) (by decide +kernel) (by decide +kernel)
  have k1 : Mul 3810047 5 2 := by
    have e : 1 * 2 ^ 1 = 2 := by decide +kernel
    rw [e] at g1
    exact g1
  have g2 : Mul 3810047 5 (2 * 1905023 ^ 1) := Mul.step 1905023 1 25 22 k1 pr_1905023 h1 (by decide) (by decide +kernel) (by decide) (by decide +kernel) (by decide +kernel) (by decide +kernel)
  have k2 : Mul 3810047 5 3810046 := by
    have e : 2 * 1905023 ^ 1 = 3810046 := by decide +kernel
    rw [e] at g2
    exact g2
  exact Mul.prime k2 (by decide) (by decide) h1 (by decide +kernel)
theorem pr_37 : Pr 37 := pr_trial 7 (by decide) (by decide) (by decide +kernel)
theorem pr_257 : Pr 257 := pr_trial 17 (by decide) (by decide) (by decide +kernel)
theorem pr_7935071 : Pr 7935071 := by
  have h1 : pm 7935071 23 7 (7935071 - 1) = 1 := by decide +kernel
  have h0 : Mul 7935071 7 1 := Mul.one
  have g1 : Mul 7935071 7 (1 * 2 ^ 1) := Mul.step 2 1 7935070 23 h0 pr_2 h1 (by decide) (by decide +kernel) (by decide) (by decide +kernel) (by decide +kernel) (by decide +kernel)
  have k1 : Mul 7935071 7 2 := by
    have e : 1 * 2 ^ 1 = 2 := by decide +kernel
    rw [e] at g1
    exact g1
  have g2 : Mul 7935071 7 (2 * 5 ^ 1) := Mul.step 5 1 3305462 23 k1 pr_5 h1 (by decide) (by decide +kernel) (by decide) (by decide +kernel) (by decide +kernel) (by decide +kernel)
  have k2 : Mul 7935071 7 10 := by
    have e : 2 * 5 ^ 1 = 10 := by decide +kernel
    rw [e] at g2
    exact g2
  have g3 : Mul 7935071 7 (10 * 11 ^ 1) := Mul.step 11 1 6736757 23 k2 pr_11 h1 (by decide) (by decide +kernel) (by decide) (by decide +kernel) (by decide +kernel) (by decide +kernel)
  have k3 : Mul 7935071 7 110 := by
    have e : 10 * 11 ^ 1 = 110 := by decide +kernel
    rw [e] at g3
    exact g3
  have g4 : Mul 7935071 7 (110 * 13 ^ 1) := Mul.step 13 1 4261228 23 k3 pr_13 h1 (by decide) (by decide +kernel) (by decide) (by decide +kernel) (by decide +kernel) (by decide +kernel)
  have k4 : Mul 7935071 7 1430 := by
    have e : 110 * 13 ^ 1 = 1430 := by decide +kernel
    rw [e] at g4
    exact g4
  have g5 : Mul 7935071 7 (1430 * 31 ^ 1) := Mul.step 31 1 4423333 23 k4 pr_31 h1 (by decide) (by decide +kernel) (by decide) (by decide +kernel) (by decide +kernel) (by decide +kernel)
  have k5 : Mul 7935071 7 44330 := by
    have e : 1430 * 31 ^ 1 = 44330 := by decide +kernel
    rw [e] at g5
    exact g5
  exact Mul.prime k5 (by decide) (by decide) h1 (by decide +kernel)
theorem pr_15870143 : Pr 15870143 := by
  have h1 : pm 15870143 24 5 (15870143 - 1) = 1 := by decide +kernel
  have h0 : Mul 15870143 5 1 := Mul.one
  have g1 : Mul 15870143 5 (1 * 2 ^ 1) := Mul.step 2 1 15870142 24 h0 pr_2 h1 (by decide) (by decide +kernel) (by decide) (by decide +kernel) (by decide +kernel) (by decide +kernel)
  have k1 : Mul 15870143 5 2 := by
    have e : 1 * 2 ^ 1 = 2 := by decide +kernel
    rw [e] at g1
    exact g1
  have g2 : Mul 15870143 5 (2 * 7935071 ^ 1) := Mul.step 7935071 1 25 24 k1 pr_7935071 h1 (by decide) (by decide +kernel) (by decide) (by decide +kernel) (by decide +kernel) (by decide +kernel)
  have k2 : Mul 15870143 5 15870142 := by
    have e : 2 * 7935071 ^ 1 = 15870142 := by decide +kernel
    rw [e] at g2
    exact g2
  exact Mul.prime k2 (by decide) (by decide) h1 (by decide +kernel)
theorem pr_401321030361983486780957614729 : Pr 401321030361983486780957614729 := by
  have h1 : pm 401321030361983486780957614729 99 19 (401321030361983486780957614729 - 1) = 1 := by decide +kernel
  have h0 : Mul 401321030361983486780957614729 19 1 := Mul.one
  have g1 : Mul 401321030361983486780957614729 19 (1 * 2 ^ 3) := Mul.step 2 3 401321030361983486780957614728 99 h0 pr_2 h1 (by decide) (by decide +kernel) (by decide) (by decide +kernel) (by decide +kernel) (by decide +kernel)
  have k1 : Mul 401321030361983486780957614729 19 8 := by
    have e : 1 * 2 ^ 3 = 8 := by decide +kernel
    rw [e] at g1
    exact g1
  have g2 : Mul 401321030361983486780957614729 19 (8 * 3 ^ 2) := Mul.step 3 2 163306879884804442236257259783 99 k1 pr_3 h1 (by decide) (by decide +kernel) (by decide) (by decide +kernel) (by decide +kernel) (by decide +kernel)
  have k2 : Mul 401321030361983486780957614729 19 72 := by
    have e : 8 * 3 ^ 2 = 72 := by decide +kernel
    rw [e] at g2
    exact g2
  have g3 : Mul 401321030361983486780957614729 19 (72 * 37 ^ 1) := Mul.step 37 1 253304384340375429568804929206 99 k2 pr_37 h1 (by decide) (by decide +kernel) (by decide) (by decide +kernel) (by decide +kernel) (by decide +kernel)
  have k3 : Mul 401321030361983486780957614729 19 2664 := by
    have e : 72 * 37 ^ 1 = 2664 := by decide +kernel
    rw [e] at g3
    exact g3
  have g4 : Mul 401321030361983486780957614729 19 (2664 * 257 ^ 1) := Mul.step 257 1 55505523813340615062362472205 99 k3 pr_257 h1 (by decide) (by decide +kernel) (by decide) (by decide +kernel) (by decide +kernel) (by decide +kernel)
  have k4 : Mul 401321030361983486780957614729 19 684648 := by
    have e : 2664 * 257 ^ 1 = 684648 := by decide +kernel
    rw [e] at g4
    exact g4
  have g5 : Mul 401321030361983486780957614729 19 (684648 * 353 ^ 1) := Mul.step 353 1 242880261562727978678941364842 99 k4 pr_353 h1 (by decide) (by decide +kernel) (by decide) (by decide +kernel) (by decide +kernel) (by decide +kernel)
  have k5 : Mul 401321030361983486780957614729 19 241680744 := by
    have e : 684648 * 353 ^ 1 = 241680744 := by decide +kernel
    rw [e] at g5
    exact g5
  have g6 : Mul 401321030361983486780957614729 19 (241680744 * 15870143 ^ 1) := Mul.step 15870143 1 53467084116410939538451590841 99 k5 pr_15870143 h1 (by decide) (by decide +kernel) (by decide) (by decide +kernel) (by decide +kernel) (by decide +kernel)
  have k6 : Mul 401321030361983486780957614729 19 3835507967626392 := by
    have e : 241680744 * 15870143 ^ 1 = 3835507967626392 := by decide +kernel
    rw [e] at g6
    exact g6
  exact Mul.prime k6 (by decide) (by decide) h1 (by decide +kernel)
theorem pr_1000000000000000000000000000000000000003 : Pr 1000000000000000000000000000000000000003 := by
  have h1 : pm 1000000000000000000000000000000000000003 130 2 (1000000000000000000000000000000000000003 - 1) = 1 := by decide +kernel
  have h0 : Mul 1000000000000000000000000000000000000003 2 1 := Mul.one
  have g1 : Mul 1000000000000000000000000000000000000003 2 (1 * 2 ^ 1) := Mul.step 2 1 1000000000000000000000000000000000000002 130 h0 pr_2 h1 (by decide) (by decide +kernel) (by decide) (by decide +kernel) (by decide +kernel) (by decide +kernel)
  have k1 : Mul 1000000000000000000000000000000000000003 2 2 := by
    have e : 1 * 2 ^ 1 = 2 := by decide +kernel
    rw [e] at g1
    exact g1
  have g2 : Mul 1000000000000000000000000000000000000003 2 (2 * 3 ^ 1) := Mul.step 3 1 7557855820613496703199568816619663774 130 k1 pr_3 h1 (by decide) (by decide +kernel) (by decide) (by decide +kernel) (by decide +kernel) (by decide +kernel)
  have k2 : Mul 1000000000000000000000000000000000000003 2 6 := by
    have e : 2 * 3 ^ 1 = 6 := by decide +kernel
    rw [e] at g2
    exact g2
  have g3 : Mul 1000000000000000000000000000000000000003 2 (6 * 109 ^ 1) := Mul.step 109 1 172583759456078333729724889921128972674 130 k2 pr_109 h1 (by decide) (by decide +kernel) (by decide) (by decide +kernel) (by decide +kernel) (by decide +kernel)
  have k3 : Mul 1000000000000000000000000000000000000003 2 654 := by
    have e : 6 * 109 ^ 1 = 654 := by decide +kernel
    rw [e] at g3
    exact g3
  have g4 : Mul 1000000000000000000000000000000000000003 2 (654 * 3810047 ^ 1) := Mul.step 3810047 1 603110204294578295681614683603295860594 130 k3 pr_3810047 h1 (by decide) (by decide +kernel) (by decide) (by decide +kernel) (by decide +kernel) (by decide +kernel)
  have k4 : Mul 1000000000000000000000000000000000000003 2 2491770738 := by
    have e : 654 * 3810047 ^ 1 = 2491770738 := by decide +kernel
    rw [e] at g4
    exact g4
  have g5 : Mul 1000000000000000000000000000000000000003 2 (2491770738 * 401321030361983486780957614729 ^ 1) := Mul.step 401321030361983486780957614729 1 744145790585996018684995321051242006678 130 k4 pr_401321030361983486780957614729 h1 (by decide) (by decide +kernel) (by decide) (by decide +kernel) (by decide +kernel) (by decide +kernel)
  have k5 : Mul 1000000000000000000000000000000000000003 2 1000000000000000000000000000000000000002 := by
    have e : 2491770738 * 401321030361983486780957614729 ^ 1 = 1000000000000000000000000000000000000002 := by decide +kernel
    rw [e] at g5
    exact g5
  exact Mul.prime k5 (by decide) (by decide) h1 (by decide +kernel)
theorem pr_311 : Pr 311 := pr_trial 18 (by decide) (by decide) (by decide +kernel)
theorem pr_2081 : Pr 2081 := pr_trial 46 (by decide) (by decide) (by decide +kernel)
theorem pr_20113 : Pr 20113 := pr_trial 142 (by decide) (by decide) (by decide +kernel)
theorem pr_7361359 : Pr 7361359 := by
  have h1 : pm 7361359 23 3 (7361359 - 1) = 1 := by decide +kernel
  have h0 : Mul 7361359 3 1 := Mul.one
  have g1 : Mul 7361359 3 (1 * 2 ^ 1) := Mul.step 2 1 7361358 23 h0 pr_2 h1 (by decide) (by decide +kernel) (by decide) (by decide +kernel) (by decide +kernel) (by decide +kernel)
  have k1 : Mul 7361359 3 2 := by
    have e : 1 * 2 ^ 1 = 2 := by decide +kernel
    rw [e] at g1
    exact g1
  have g2 : Mul 7361359 3 (2 * 3 ^ 1) := Mul.step 3 1 3699912 23 k1 pr_3 h1 (by decide) (by decide +kernel) (by decide) (by decide +kernel) (by decide +kernel) (by decide +kernel)
  have k2 : Mul 7361359 3 6 := by
    have e : 2 * 3 ^ 1 = 6 := by decide +kernel
    rw [e] at g2
    exact g2
  have g3 : Mul 7361359 3 (6 * 61 ^ 1) := Mul.step 61 1 6002416 23 k2 pr_61 h1 (by decide) (by decide +kernel) (by decide) (by decide +kernel) (by decide +kernel) (by decide +kernel)
  have k3 : Mul 7361359 3 366 := by
    have e : 6 * 61 ^ 1 = 366 := by decide +kernel
    rw [e] at g3
    exact g3
  have g4 : Mul 7361359 3 (366 * 20113 ^ 1) := Mul.step 20113 1 6664911 23 k3 pr_20113 h1 (by decide) (by decide +kernel) (by decide) (by decide +kernel) (by decide +kernel) (by decide +kernel)
  have k4 : Mul 7361359 3 7361358 := by
    have e : 366 * 20113 ^ 1 = 7361358 := by decide +kernel
    rw [e] at g4
    exact g4
  exact Mul.prime k4 (by decide) (by decide) h1 (by decide +kernel)
theorem pr_769 : Pr 769 := pr_trial 28 (by decide) (by decide) (by decide +kernel)
theorem pr_2957 : Pr 2957 := pr_trial 55 (by decide) (by decide) (by decide +kernel)
theorem pr_1676254721 : Pr 1676254721 := by
  have h1 : pm 1676254721 31 13 (1676254721 - 1) = 1 := by decide +kernel
  have h0 : Mul 1676254721 13 1 := Mul.one
  have g1 : Mul 1676254721 13 (1 * 2 ^ 9) := Mul.step 2 9 1676254720 31 h0 pr_2 h1 (by decide) (by decide +kernel) (by decide) (by decide +kernel) (by decide +kernel) (by decide +kernel)
  have k1 : Mul 1676254721 13 512 := by
    have e : 1 * 2 ^ 9 = 512 := by decide +kernel
    rw [e] at g1
    exact g1
  have g2 : Mul 1676254721 13 (512 * 5 ^ 1) := Mul.step 5 1 153661640 31 k1 pr_5 h1 (by decide) (by decide +kernel) (by decide) (by decide +kernel) (by decide +kernel) (by decide +kernel)
  have k2 : Mul 1676254721 13 2560 := by
    have e : 512 * 5 ^ 1 = 2560 := by decide +kernel
    rw [e] at g2
    exact g2
  have g3 : Mul 1676254721 13 (2560 * 7 ^ 3) := Mul.step 7 3 922601029 31 k2 pr_7 h1 (by decide) (by decide +kernel) (by decide) (by decide +kernel) (by decide +kernel) (by decide +kernel)
  have k3 : Mul 1676254721 13 878080 := by
    have e : 2560 * 7 ^ 3 = 878080 := by decide +kernel
    rw [e] at g3
    exact g3
  exact Mul.prime k3 (by decide) (by decide) h1 (by decide +kernel)
theorem pr_149927568276670622397029177 : Pr 149927568276670622397029177 := by
  have h1 : pm 149927568276670622397029177 87 3 (149927568276670622397029177 - 1) = 1 := by decide +kernel
  have h0 : Mul 149927568276670622397029177 3 1 := Mul.one
  have g1 : Mul 149927568276670622397029177 3 (1 * 2 ^ 3) := Mul.step 2 3 149927568276670622397029176 87 h0 pr_2 h1 (by decide) (by decide +kernel) (by decide) (by decide +kernel) (by decide +kernel) (by decide +kernel)
  have k1 : Mul 149927568276670622397029177 3 8 := by
    have e : 1 * 2 ^ 3 = 8 := by decide +kernel
    rw [e] at g1
    exact g1
  have g2 : Mul 149927568276670622397029177 3 (8 * 769 ^ 1) := Mul.step 769 1 59669862712920692387314097 87 k1 pr_769 h1 (by decide) (by decide +kernel) (by decide) (by decide +kernel) (by decide +kernel) (by decide +kernel)
  have k2 : Mul 149927568276670622397029177 3 6152 := by
    have e : 8 * 769 ^ 1 = 6152 := by decide +kernel
    rw [e] at g2
    exact g2
  have g3 : Mul 149927568276670622397029177 3 (6152 * 2957 ^ 1) := Mul.step 2957 1 19249887581780211378077185 87 k2 pr_2957 h1 (by decide) (by decide +kernel) (by decide) (by decide +kernel) (by decide +kernel) (by decide +kernel)
  have k3 : Mul 149927568276670622397029177 3 18191464 := by
    have e : 6152 * 2957 ^ 1 = 18191464 := by decide +kernel
    rw [e] at g3
    exact g3
  have g4 : Mul 149927568276670622397029177 3 (18191464 * 1676254721 ^ 1) := Mul.step 1676254721 1 149829488248689398705562929 87 k3 pr_1676254721 h1 (by decide) (by decide +kernel) (by decide) (by decide +kernel) (by decide +kernel) (by decide +kernel)
  have k4 : Mul 149927568276670622397029177 3 30493527411901544 := by
    have e : 18191464 * 1676254721 ^ 1 = 30493527411901544 := by decide +kernel
    rw [e] at g4
    exact g4
  exact Mul.prime k4 (by decide) (by decide) h1 (by decide +kernel)
theorem pr_9999999999999999999999999999999999999983 : Pr 9999999999999999999999999999999999999983 := by
  have h1 : pm 9999999999999999999999999999999999999983 133 5 (9999999999999999999999999999999999999983 - 1) = 1 := by decide +kernel
  have h0 : Mul 9999999999999999999999999999999999999983 5 1 := Mul.one
  have g1 : Mul 9999999999999999999999999999999999999983 5 (1 * 2 ^ 1) := Mul.step 2 1 9999999999999999999999999999999999999982 133 h0 pr_2 h1 (by decide) (by decide +kernel) (by decide) (by decide +kernel) (by decide +kernel) (by decide +kernel)
  have k1 : Mul 9999999999999999999999999999999999999983 5 2 := by
    have e : 1 * 2 ^ 1 = 2 := by decide +kernel
    rw [e] at g1
    exact g1
  have g2 : Mul 9999999999999999999999999999999999999983 5 (2 * 7 ^ 1) := Mul.step 7 1 6833921627193203839763318284769068969908 133 k1 pr_7 h1 (by decide) (by decide +kernel) (by decide) (by decide +kernel) (by decide +kernel) (by decide +kernel)
  have k2 : Mul 9999999999999999999999999999999999999983 5 14 := by
    have e : 2 * 7 ^ 1 = 14 := by decide +kernel
    rw [e] at g2
    exact g2
  have g3 : Mul 9999999999999999999999999999999999999983 5 (14 * 311 ^ 1) := Mul.step 311 1 3008473217211297398884738535022316183284 133 k2 pr_311 h1 (by decide) (by decide +kernel) (by decide) (by decide +kernel) (by decide +kernel) (by decide +kernel)
  have k3 : Mul 9999999999999999999999999999999999999983 5 4354 := by
    have e : 14 * 311 ^ 1 = 4354 := by decide +kernel
    rw [e] at g3
    exact g3
  have g4 : Mul 9999999999999999999999999999999999999983 5 (4354 * 2081 ^ 1) := Mul.step 2081 1 6113741472698024537511531117126444155737 133 k3 pr_2081 h1 (by decide) (by decide +kernel) (by decide) (by decide +kernel) (by decide +kernel) (by decide +kernel)
  have k4 : Mul 9999999999999999999999999999999999999983 5 9060674 := by
    have e : 4354 * 2081 ^ 1 = 9060674 := by decide +kernel
    rw [e] at g4
    exact g4
  have g5 : Mul 9999999999999999999999999999999999999983 5 (9060674 * 7361359 ^ 1) := Mul.step 7361359 1 3164064744375017171865380777239234957083 133 k4 pr_7361359 h1 (by decide) (by decide +kernel) (by decide) (by decide +kernel) (by decide +kernel) (by decide +kernel)
  have k5 : Mul 9999999999999999999999999999999999999983 5 66698874095966 := by
    have e : 9060674 * 7361359 ^ 1 = 66698874095966 := by decide +kernel
    rw [e] at g5
    exact g5
  have g6 : Mul 9999999999999999999999999999999999999983 5 (66698874095966 * 149927568276670622397029177 ^ 1) := Mul.step 149927568276670622397029177 1 6031902669639887255826430714367227751485 133 k5 pr_149927568276670622397029177 h1 (by decide) (by decide +kernel) (by decide) (by decide +kernel) (by decide +kernel) (by decide +kernel)
  have k6 : Mul 9999999999999999999999999999999999999983 5 9999999999999999999999999999999999999982 := by
    have e : 66698874095966 * 149927568276670622397029177 ^ 1 = 9999999999999999999999999999999999999982 := by decide +kernel
    rw [e] at g6
    exact g6
  exact Mul.prime k6 (by decide) (by decide) h1 (by decide +kernel)
end DL
end
section
namespace DL
/-! ### the bag of draws -/
theorem smallI_of {a : Int} (h : -(2 ^ 64) < a) (h2 : a < 2 ^ 64) : smallI a := ⟨h, h2⟩
theorem mulO_small {a b : Int} (h : smallI a) : mulO a b = some (a * b) := if_pos (.inl h)
theorem mulO_smallR {a b : Int} (h : smallI b) : mulO a b = some (a * b) := if_pos (.inr (.inl h))
theorem pow_mono {a b : Nat} (h : a ≤ b) : 2 ^ a ≤ 2 ^ b := Nat.pow_le_pow_right (by decide) h
theorem mulO_big {a b : Int} {n m : Nat} (ha : a.natAbs < 2 ^ n) (hb : b.natAbs < 2 ^ m) (h1 : n ≤ 400000) (h2 : m ≤ 400000) : mulO a b = some (a * b) :=
  if_pos (.inr (.inr ⟨lt_BIG (Nat.lt_of_lt_of_le ha (pow_mono h1)), lt_BIG (Nat.lt_of_lt_of_le hb (pow_mono h2))⟩))
theorem modO_pos {a b : Int} (h : 0 < b) : modO a b = some (a % b) := if_pos h
theorem divO_pos {a b : Int} {n : Nat} (h : 0 < b) (hb : b.natAbs < 2 ^ n) (h1 : n ≤ 8999) : divO a b = some (a / b) := if_pos ⟨h, lt_BIGD (Nat.lt_of_lt_of_le hb (pow_mono h1))⟩
theorem powO_ok' {a b : Int} (h0 : 0 ≤ b) (h1 : b ≤ 1000000) (h2 : a.natAbs < 2 ^ 64) : powO a b = some (a ^ b.toNat) := if_pos ⟨h0, h1, h2⟩
theorem rngO_some {a b : Int} (h1 : -(2 ^ 61) < a) (h2 : a < 2 ^ 61) (h3 : -(2 ^ 61) < b) (h4 : b < 2 ^ 61) (h5 : b - a ≤ 1000000) : rngO a b = some (rng a b) := if_pos ⟨h1, h2, h3, h4, h5⟩
theorem mem_rng {a b x : Int} : x ∈ rng a b ↔ a ≤ x ∧ x < b := by
  unfold rng
  rw [List.mem_map]
  constructor
  · rintro ⟨i, hi, rfl⟩
    rw [List.mem_range] at hi
    omega
  · rintro ⟨h1, h2⟩
    exact ⟨(x - a).toNat, List.mem_range.mpr (by omega), by omega⟩
/-- a loop by an invariant over what is left of the list -/
theorem foldO_inv {α σ : Type} {f : α → σ → Option σ} (Inv : List α → σ → Prop) (h : ∀ x xs s, Inv (x :: xs) s → ∃ s', f x s = some s' ∧ Inv xs s') : ∀ (xs : List α) (s : σ), Inv xs s → ∃ s', foldO xs s f = some s' ∧ Inv [] s'
  | [], s, i => ⟨s, rfl, i⟩
  | x :: xs, s, i => by
    obtain ⟨s1, h1, i1⟩ := h x xs s i
    obtain ⟨s2, h2, i2⟩ := foldO_inv Inv h xs s1 i1
    exact ⟨s2, by show Option.bind (f x s) _ = _; rw [h1]; exact h2, i2⟩
theorem foldO_mem {α σ : Type} {f : α → σ → Option σ} (Inv : σ → Prop) (xs : List α) (h : ∀ x s, x ∈ xs → Inv s → ∃ s', f x s = some s' ∧ Inv s') (s : σ) (i : Inv s) : ∃ s', foldO xs s f = some s' ∧ Inv s' := by
  obtain ⟨s', h1, h2⟩ := foldO_inv (f := f) (fun ys s => (∀ y ∈ ys, y ∈ xs) ∧ Inv s) (fun x ys s ⟨hm, i⟩ => by
    obtain ⟨s', h1, h2⟩ := h x s (hm x (List.mem_cons_self ..)) i
    exact ⟨s', h1, fun y hy => hm y (List.mem_cons_of_mem _ hy), h2⟩) xs s ⟨fun _ h => h, i⟩
  exact ⟨s', h1, h2.2⟩
/-- a loop that may be left -/
theorem forO_mem {α σ ρ : Type} {f : α → σ → Option (Fl σ ρ)} (Inv : σ → Prop) (R : ρ → Prop) (xs : List α) (h : ∀ x s, x ∈ xs → Inv s → ∃ fl, f x s = some fl ∧ (∀ s', fl = .next s' → Inv s') ∧ ∀ r, fl = .ret r → R r) (s : σ) (i : Inv s) :
    ∃ fl, forO xs s f = some fl ∧ (∀ s', fl = .next s' → Inv s') ∧ ∀ r, fl = .ret r → R r := by
  induction xs generalizing s with
  | nil => exact ⟨.next s, rfl, fun s' e => (by cases e; exact i), fun r e => (by cases e)⟩
  | cons x xs ih =>
    obtain ⟨fl, h1, h2, h3⟩ := h x s (List.mem_cons_self ..) i
    cases fl with
    | next s1 =>
      obtain ⟨fl', g1, g2, g3⟩ := ih (fun y s hy => h y s (List.mem_cons_of_mem _ hy)) s1 (h2 s1 rfl)
      exact ⟨fl', by show Option.bind (f x s) _ = _; rw [h1]; exact g1, g2, g3⟩
    | ret r => exact ⟨.ret r, by show Option.bind (f x s) _ = _; rw [h1]; rfl, fun s' e => (by cases e), fun r' e => (by cases e; exact h3 r rfl)⟩
/-- a while by a measure -/
theorem loopO_inv {σ : Type} {c : σ → Option Bool} {f : σ → Option σ} (Inv : Nat → σ → Prop) (h : ∀ n s, Inv n s → ∃ b, c s = some b ∧ (b = true → ∃ s' m, f s = some s' ∧ m < n ∧ Inv m s')) : ∀ (fuel n : Nat) (s : σ), Inv n s → n < fuel → ∃ s' m, loopO fuel s c f = some s' ∧ Inv m s' ∧ c s' = some false
  | 0, n, s, i, hl => by omega
  | fuel + 1, n, s, i, hl => by
    obtain ⟨b, hb, h1⟩ := h n s i
    cases b with
    | false => exact ⟨s, n, by unfold loopO; rw [hb]; rfl, i, hb⟩
    | true =>
      obtain ⟨s1, m, g1, g2, g3⟩ := h1 rfl
      obtain ⟨s2, m2, k1, k2, k3⟩ := loopO_inv Inv h fuel m s1 g3 (by omega)
      refine ⟨s2, m2, ?_, k2, k3⟩
      unfold loopO
      rw [hb]
      show Option.bind (f s) _ = _
      rw [g1]
      exact k1
structure WB (b : Bag) : Prop where
  cells : ∀ x ∈ b.cells, 0 ≤ x ∧ x < 10 ^ 60
  i0 : 0 ≤ b.i
  i1 : b.i ≤ b.cells.length
  d0 : 0 ≤ b.d
  s0 : 0 ≤ b.s
  s1 : b.s < 2147483647
/-- a step that draws: it comes to an end, the bag stays well, and P holds of what it gives -/
def Tr {α : Type} (m : Bag → Option (α × Bag)) (P : α → Prop) : Prop := ∀ b, WB b → ∃ x b', m b = some (x, b') ∧ WB b' ∧ P x
theorem mapO_ok {α β : Type} {f : α → Option β} (P : β → Prop) : ∀ (xs : List α), (∀ x ∈ xs, ∃ y, f x = some y ∧ P y) → ∃ ys, mapO xs f = some ys ∧ ys.length = xs.length ∧ ∀ y ∈ ys, P y
  | [], _ => ⟨[], rfl, rfl, fun _ h => by simp at h⟩
  | x :: xs, h => by
    obtain ⟨y, h1, h2⟩ := h x (List.mem_cons_self ..)
    obtain ⟨ys, g1, g2, g3⟩ := mapO_ok P xs fun z hz => h z (List.mem_cons_of_mem _ hz)
    refine ⟨y :: ys, ?_, by simp [g2], fun z hz => ?_⟩
    · unfold mapO
      rw [h1]
      show Option.map _ (mapO xs f) = _
      rw [g1]
      rfl
    · rcases List.mem_cons.mp hz with e | e
      · rw [e]; exact h2
      · exact g3 z e
theorem bag_ok (ns : List Int) : ∃ b, m_Lbag_e242 ns = some b ∧ WB b := by
  unfold m_Lbag_e242
  obtain ⟨s, h1, h2, h3⟩ := foldO_mem (f := fun x2 (u1 : (Int)) => ((mulO u1 (48271 : Int)).bind fun t4 => (modO x2 (2147483629 : Int)).bind fun t5 => (modO ((t4 + t5) + (1 : Int)) (2147483647 : Int)).bind fun t6 => some (t6))) (fun s => 0 ≤ s ∧ s < 2147483647) (cut ns none (some 63)) (fun x s hx ⟨i0, i1⟩ => by
    rw [mulO_smallR (smallI_of (by decide) (by decide)), Option.bind_some, modO_pos (by decide), Option.bind_some, modO_pos (by decide)]
    exact ⟨_, rfl, Int.emod_nonneg _ (by decide), Int.emod_lt_of_pos _ (by decide)⟩) 19 ⟨by decide, by decide⟩
  rw [h1, Option.bind_some]
  obtain ⟨ys, g1, g2, g3⟩ := mapO_ok (f := fun x8 => ((powO (10 : Int) (60 : Int)).bind fun t10 => (modO (absI x8) t10).bind fun t11 => some t11)) (fun y : Int => 0 ≤ y ∧ y < 10 ^ 60) (cut ns none (some 63)) (fun x hx => by
    rw [powO_ok' (by decide) (by decide) (by decide), Option.bind_some, modO_pos (by decide)]
    exact ⟨_, rfl, Int.emod_nonneg _ (by decide), Int.emod_lt_of_pos _ (by decide)⟩)
  rw [g1, Option.bind_some]
  exact ⟨_, rfl, g3, Int.le_refl _, Int.natCast_nonneg _, Int.le_refl _, h2, h3⟩

theorem natAbs_lt {a : Int} {n : Nat} (h0 : 0 ≤ a) (h : a < ((n : Nat) : Int)) : a.natAbs < n := by omega
theorem natAbs_lt_of {a b : Int} {n : Nat} (h0 : 0 ≤ a) (h : a ≤ b) (hb : b.natAbs < n) : a.natAbs < n := by omega
theorem pow_int (n : Nat) : (((2 ^ n : Nat)) : Int) = (2 : Int) ^ n := by simp
/-- draws of numbers below 2 ^ 1000 -/
theorem stirred_ok {n : Int} (h0 : 0 < n) (h1 : n.natAbs < 2 ^ 1000) : Tr (fun b => m_Lstirred_db2d b n) (fun k => 0 ≤ k ∧ k < n) := fun b hb => by
  have hbits : 0 ≤ bitsI n ∧ bitsI n ≤ 1001 := by
    unfold bitsI
    rw [if_neg (by omega)]
    have : n.natAbs.log2 < 1000 := (Nat.log2_lt (by omega)).mpr h1
    omega
  show ∃ x b', m_Lstirred_db2d b n = some (x, b') ∧ _
  unfold m_Lstirred_db2d
  rw [divO_pos (n := 10) (by decide) (by decide) (by decide), Option.bind_some]
  have hq : 0 ≤ bitsI n / 27 ∧ bitsI n / 27 ≤ 38 := ⟨Int.ediv_nonneg hbits.1 (by decide), by omega⟩
  rw [rngO_some (by decide) (by decide) (by omega) (by omega) (by omega), Option.bind_some]
  obtain ⟨s', e1, hi⟩ := foldO_inv (f := fun x4 (u3 : (Int × Bag)) => ((some { u3.2 with c := (u3.2.c + (1 : Int)) }).bind fun bag5 => ((powO (bag5.s) (3 : Int)).bind fun t6 => (mulO (69621 : Int) (bag5.s)).bind fun t7 => (mulO (1031 : Int) (bag5.c)).bind fun t8 => (modO (((t6 + t7) + t8) + (1 : Int)) (2147483647 : Int)).bind fun t9 => (some { bag5 with s := t9 }).bind fun bag10 => ((mulO u3.1 (134217728 : Int)).bind fun t11 => (divO (bag10.s) (16 : Int)).bind fun t12 => (some (t11 + t12)).bind fun found13 => some (found13, bag10)))))
    (fun (xs : List Int) (s : Int × Bag) => WB s.2 ∧ 0 ≤ s.1) (fun x xs s ⟨hw, hs⟩ => by
      have hs0 := hw.s0
      have hs1 := hw.s1
      simp only [Option.bind_some]
      rw [powO_ok' (by decide) (by decide) (by show s.2.s.natAbs < 2 ^ 64; omega), Option.bind_some, mulO_small (smallI_of (by decide) (by decide)), Option.bind_some, mulO_small (smallI_of (by decide) (by decide)), Option.bind_some, modO_pos (by decide), Option.bind_some,
        mulO_smallR (smallI_of (by decide) (by decide)), Option.bind_some, divO_pos (n := 10) (by decide) (by decide) (by decide), Option.bind_some]
      refine ⟨_, rfl, ⟨hw.cells, hw.i0, hw.i1, hw.d0, Int.emod_nonneg _ (by decide), Int.emod_lt_of_pos _ (by decide)⟩, ?_⟩
      exact Int.add_nonneg (Int.mul_nonneg hs (by decide)) (Int.ediv_nonneg (Int.emod_nonneg _ (by decide)) (by decide))) (rng 0 (1 + bitsI n / 27)) (0, b) ⟨hb, Int.le_refl _⟩
  rw [e1, Option.bind_some, modO_pos h0, Option.bind_some]
  exact ⟨_, _, rfl, hi.1, Int.emod_nonneg _ (by omega), Int.emod_lt_of_pos _ h0⟩
theorem ixO_nat {α : Type} {xs : List α} {i : Int} (h0 : 0 ≤ i) (h1 : i < xs.length) : ∃ x, ixO xs i = some x ∧ x ∈ xs ∧ xs[i.toNat]? = some x := by
  unfold ixO ixJ
  rw [if_pos h0, if_pos h1]
  have h2 : i.toNat < xs.length := by omega
  exact ⟨xs[i.toNat], by show xs[i.toNat]? = _; exact List.getElem?_eq_getElem h2, List.getElem_mem h2, List.getElem?_eq_getElem h2⟩
/-! ### Ok: a mirror comes to a value of which P holds -/
def Ok {α : Type} (m : Option α) (P : α → Prop) : Prop := ∃ r, m = some r ∧ P r
theorem Ok.bind {α β : Type} {m : Option α} {k : α → Option β} {P : α → Prop} {Q : β → Prop} (h : Ok m P) (hk : ∀ x, P x → Ok (k x) Q) : Ok (m.bind k) Q := by
  obtain ⟨x, rfl, hx⟩ := h
  exact hk x hx
theorem Ok.map {α β : Type} {m : Option α} {k : α → β} {P : α → Prop} {Q : β → Prop} (h : Ok m P) (hk : ∀ x, P x → Q (k x)) : Ok (m.map k) Q := by
  obtain ⟨x, rfl, hx⟩ := h
  exact ⟨_, rfl, hk x hx⟩
theorem Ok.pure {α : Type} {x : α} {P : α → Prop} (h : P x) : Ok (some x) P := ⟨x, rfl, h⟩
theorem Ok.let {α β : Type} {x : α} {k : α → Option β} {Q : β → Prop} (h : Ok (k x) Q) : Ok ((some x).bind k) Q := h
theorem Ok.imp {α : Type} {m : Option α} {P Q : α → Prop} (h : Ok m P) (hk : ∀ x, P x → Q x) : Ok m Q := by
  obtain ⟨x, e, hx⟩ := h
  exact ⟨x, e, hk x hx⟩
theorem Ok.eq {α : Type} {m : Option α} {x : α} (h : m = some x) : Ok m (fun y => y = x) := ⟨x, h, rfl⟩
theorem Ok.of {α : Type} {m : Option α} {x : α} {P : α → Prop} (h : m = some x) (p : P x) : Ok m P := ⟨x, h, p⟩
theorem Ok.ite {α : Type} {c : Bool} {A B : Option α} {Q : α → Prop} (h1 : c = true → Ok A Q) (h2 : c = false → Ok B Q) : Ok (if c = true then A else B) Q := by
  cases c with
  | true => exact h1 rfl
  | false => exact h2 rfl
theorem Ok.mulS {a b : Int} (h : smallI a) : Ok (mulO a b) (fun r => r = a * b) := .eq (mulO_small h)
theorem Ok.mulR {a b : Int} (h : smallI b) : Ok (mulO a b) (fun r => r = a * b) := .eq (mulO_smallR h)
theorem Ok.mul {a b : Int} (n m : Nat) (ha : a.natAbs < 2 ^ n) (hb : b.natAbs < 2 ^ m) (h1 : n ≤ 400000 := by decide) (h2 : m ≤ 400000 := by decide) : Ok (mulO a b) (fun r => r = a * b) := .eq (mulO_big ha hb h1 h2)
theorem Ok.mod {a b : Int} (h : 0 < b) : Ok (modO a b) (fun r => r = a % b ∧ 0 ≤ r ∧ r < b) := .of (modO_pos h) ⟨rfl, Int.emod_nonneg _ (by omega), Int.emod_lt_of_pos _ h⟩
theorem Ok.div {a b : Int} (n : Nat) (h : 0 < b) (hb : b.natAbs < 2 ^ n) (h1 : n ≤ 8999 := by decide) : Ok (divO a b) (fun r => r = a / b) := .eq (divO_pos h hb h1)
theorem Ok.pow {a b : Int} (h0 : 0 ≤ b) (h1 : b ≤ 1000000) (h2 : a.natAbs < 2 ^ 64) : Ok (powO a b) (fun r => r = a ^ b.toNat) := .eq (powO_ok' h0 h1 h2)
theorem Ok.rng {a b : Int} (h1 : -(2 ^ 61) < a) (h2 : a < 2 ^ 61) (h3 : -(2 ^ 61) < b) (h4 : b < 2 ^ 61) (h5 : b - a ≤ 1000000) : Ok (rngO a b) (fun r => r = DL.rng a b) := .eq (rngO_some h1 h2 h3 h4 h5)
theorem Ok.ix {α : Type} {xs : List α} {i : Int} (h0 : 0 ≤ i) (h1 : i < xs.length) : Ok (ixO xs i) (fun r => r ∈ xs ∧ xs[i.toNat]? = some r) := by
  obtain ⟨x, h, p, q⟩ := ixO_nat h0 h1
  exact ⟨x, h, p, q⟩
theorem Ok.fold {α σ : Type} {xs : List α} {s : σ} {f : α → σ → Option σ} (Inv : σ → Prop) (i : Inv s) (h : ∀ x s, x ∈ xs → Inv s → Ok (f x s) Inv) : Ok (foldO xs s f) Inv := foldO_mem Inv xs h s i
theorem Ok.foldL {α σ : Type} {xs : List α} {s : σ} {f : α → σ → Option σ} (Inv : List α → σ → Prop) (i : Inv xs s) (h : ∀ x xs s, Inv (x :: xs) s → Ok (f x s) (Inv xs)) : Ok (foldO xs s f) (Inv []) := foldO_inv Inv h xs s i
theorem Ok.after {α σ ρ τ : Type} {xs : List α} {s : σ} {f : α → σ → Option (Fl σ ρ)} {w : ρ → τ} {k : σ → Option τ} {Q : τ → Prop} (Inv : σ → Prop) (R : ρ → Prop) (i : Inv s) (h : ∀ x s, x ∈ xs → Inv s → Ok (f x s) (fun fl => (∀ s', fl = .next s' → Inv s') ∧ ∀ r, fl = .ret r → R r)) (hr : ∀ r, R r → Q (w r)) (hk : ∀ s, Inv s → Ok (k s) Q) : Ok (afterO (forO xs s f) w k) Q := by
  obtain ⟨fl, h1, h2, h3⟩ := forO_mem Inv R xs h s i
  show Ok (Option.bind (forO xs s f) (aft w k)) Q
  rw [h1]
  cases fl with
  | next s' => exact hk s' (h2 s' rfl)
  | ret r => exact ⟨_, rfl, hr r (h3 r rfl)⟩
theorem Ok.next {σ ρ : Type} {s : σ} {Inv : σ → Prop} {R : ρ → Prop} (h : Inv s) : Ok (some (Fl.next s : Fl σ ρ)) (fun fl => (∀ s', fl = .next s' → Inv s') ∧ ∀ r, fl = .ret r → R r) := ⟨_, rfl, fun s' e => (by cases e; exact h), fun r e => (by cases e)⟩
theorem Ok.ret {σ ρ : Type} {r : ρ} {Inv : σ → Prop} {R : ρ → Prop} (h : R r) : Ok (some (Fl.ret r : Fl σ ρ)) (fun fl => (∀ s', fl = .next s' → Inv s') ∧ ∀ r, fl = .ret r → R r) := ⟨_, rfl, fun s' e => (by cases e), fun r' e => (by cases e; exact h)⟩
theorem Ok.loop {σ : Type} {fuel : Nat} {s : σ} {c : σ → Option Bool} {f : σ → Option σ} (Inv : Nat → σ → Prop) (n : Nat) (i : Inv n s) (hn : n < fuel) (h : ∀ n s, Inv n s → ∃ b, c s = some b ∧ (b = true → Ok (f s) (fun s' => ∃ m, m < n ∧ Inv m s'))) : Ok (loopO fuel s c f) (fun s' => c s' = some false ∧ ∃ m, Inv m s') := by
  obtain ⟨s', m, h1, h2, h3⟩ := loopO_inv Inv (fun n s i => by
    obtain ⟨b, hb, h1⟩ := h n s i
    refine ⟨b, hb, fun e => ?_⟩
    obtain ⟨s', g1, m, g2, g3⟩ := h1 e
    exact ⟨s', m, g1, g2, g3⟩) fuel n s i hn
  exact ⟨s', h1, h3, m, h2⟩
theorem Tr.ok {α : Type} {m : Bag → Option (α × Bag)} {P : α → Prop} (h : Tr m P) {b : Bag} (hb : WB b) : Ok (m b) (fun r => WB r.2 ∧ P r.1) := by
  obtain ⟨x, b', e, w, p⟩ := h b hb
  exact ⟨(x, b'), e, w, p⟩
theorem Tr.mk {α : Type} {m : Bag → Option (α × Bag)} {P : α → Prop} (h : ∀ b, WB b → Ok (m b) (fun r => WB r.2 ∧ P r.1)) : Tr m P := fun b hb => by
  obtain ⟨⟨x, b'⟩, e, w, p⟩ := h b hb
  exact ⟨x, b', e, w, p⟩
theorem draw_ok {n : Int} (h0 : 0 < n) (h1 : n.natAbs < 2 ^ 1000) : Tr (fun b => m_Ldraw_f7ac b n) (fun k => 0 ≤ k ∧ k < n) := Tr.mk fun b hb => by
  show Ok (m_Ldraw_f7ac b n) _
  unfold m_Ldraw_f7ac
  have fin : ∀ b2 : Bag, WB b2 → Ok ((modO b2.d n).bind fun t4 => (divO b2.d n).bind fun t5 => (some { b2 with d := t5 }).bind fun bag6 => some (t4, bag6)) (fun r => WB r.2 ∧ 0 ≤ r.1 ∧ r.1 < n) := fun b2 hb2 => by
    refine Ok.bind (Ok.mod h0) fun t ht => Ok.bind (Ok.div 1000 h0 h1) fun u hu => Ok.let (Ok.pure ⟨?_, ht.2⟩)
    exact ⟨hb2.cells, hb2.i0, hb2.i1, by rw [hu]; exact Int.ediv_nonneg hb2.d0 (by omega), hb2.s0, hb2.s1⟩
  refine Ok.ite (fun hc => ?_) (fun hc => Ok.ite (fun hc2 => ?_) fun hc2 => fin b hb)
  · rw [Bool.and_eq_true, decide_eq_true_eq, decide_eq_true_eq] at hc
    refine Ok.bind (Ok.ix hb.i0 hc.2) fun t ht => Ok.let (Ok.let ?_)
    have ht2 := hb.cells t ht.1
    exact fin _ ⟨hb.cells, Int.le_trans hb.i0 (Int.le_add_of_nonneg_right (by decide)), (show b.i + 1 ≤ (b.cells.length : Int) from hc.2), ht2.1, hb.s0, hb.s1⟩
  · exact Ok.bind ((stirred_ok h0 h1).ok hb) fun r hr => Ok.pure hr
/-- what a comprehension with a test gives, item by item -/
inductive FilR {α β : Type} (R : α → Option β → Prop) : List α → List β → Prop
  | nil : FilR R [] []
  | keep {x : α} {y : β} {xs : List α} {ys : List β} : R x (some y) → FilR R xs ys → FilR R (x :: xs) (y :: ys)
  | skip {x : α} {xs : List α} {ys : List β} : R x none → FilR R xs ys → FilR R (x :: xs) ys
theorem FilR.empty {α β : Type} {R : α → Option β → Prop} {xs : List α} {ys : List β} (h : FilR R xs ys) : ys = [] → ∀ x ∈ xs, R x none := by
  induction h with
  | nil => intro _ x hx; simp at hx
  | keep h t ih => intro e; cases e
  | skip h t ih =>
    intro e x hx
    rcases List.mem_cons.mp hx with z | z
    · rw [z]; exact h
    · exact ih e x z
theorem Ok.fil {α β : Type} {xs : List α} {f : α → Option (Option β)} (R : α → Option β → Prop) (h : ∀ x ∈ xs, Ok (f x) (R x)) : Ok (filO xs f) (FilR R xs) := by
  induction xs with
  | nil => exact ⟨[], rfl, .nil⟩
  | cons x xs ih =>
    obtain ⟨o, h1, h2⟩ := h x (List.mem_cons_self ..)
    obtain ⟨ys, g1, g2⟩ := ih fun y hy => h y (List.mem_cons_of_mem _ hy)
    unfold filO
    rw [h1, Option.bind_some, g1]
    cases o with
    | none => exact ⟨_, rfl, .skip h2 g2⟩
    | some y => exact ⟨_, rfl, .keep h2 g2⟩
/-- what a comprehension gives, item by item -/
inductive MapR {α β : Type} (R : α → β → Prop) : List α → List β → Prop
  | nil : MapR R [] []
  | cons {x : α} {y : β} {xs : List α} {ys : List β} : R x y → MapR R xs ys → MapR R (x :: xs) (y :: ys)
theorem MapR.length {α β : Type} {R : α → β → Prop} {xs : List α} {ys : List β} (h : MapR R xs ys) : ys.length = xs.length := by
  induction h with
  | nil => rfl
  | cons h t ih => simp [ih]
theorem MapR.mem {α β : Type} {R : α → β → Prop} {xs : List α} {ys : List β} (h : MapR R xs ys) : ∀ y ∈ ys, ∃ x ∈ xs, R x y := by
  induction h with
  | nil => intro y hy; simp at hy
  | cons h t ih =>
    intro y hy
    rcases List.mem_cons.mp hy with e | e
    · exact ⟨_, List.mem_cons_self .., e ▸ h⟩
    · obtain ⟨x, hx, hr⟩ := ih y e
      exact ⟨x, List.mem_cons_of_mem _ hx, hr⟩
theorem Ok.mapL {α β : Type} {xs : List α} {f : α → Option β} (R : α → β → Prop) (h : ∀ x ∈ xs, Ok (f x) (R x)) : Ok (mapO xs f) (MapR R xs) := by
  induction xs with
  | nil => exact ⟨[], rfl, .nil⟩
  | cons x xs ih =>
    obtain ⟨o, h1, h2⟩ := h x (List.mem_cons_self ..)
    obtain ⟨ys, g1, g2⟩ := ih fun y hy => h y (List.mem_cons_of_mem _ hy)
    unfold mapO
    rw [h1, Option.bind_some, g1]
    exact ⟨_, rfl, .cons h2 g2⟩
/-- a comprehension that draws -/
theorem Ok.mapB {α β : Type} {xs : List α} {f : α → Bag → Option (β × Bag)} (R : α → β → Prop) (h : ∀ x ∈ xs, Tr (f x) (R x)) : ∀ {b : Bag}, WB b → Ok (mapS xs b f) (fun r => WB r.2 ∧ MapR R xs r.1) := by
  induction xs with
  | nil => exact fun {b} hb => ⟨([], b), rfl, hb, .nil⟩
  | cons x xs ih =>
    intro b hb
    obtain ⟨y, b1, h1, w1, p1⟩ := h x (List.mem_cons_self ..) b hb
    obtain ⟨r, g1, g2, g3⟩ := ih (fun y hy => h y (List.mem_cons_of_mem _ hy)) w1
    unfold mapS
    rw [h1, Option.bind_some, g1]
    exact ⟨_, rfl, g2, .cons p1 g3⟩
/-! ### primes that are drawn -/
def PI (p : Int) : Prop := 0 < p ∧ Pr p.toNat ∧ p < 2 ^ 134
theorem PI.ge {p : Int} (h : PI p) : 2 ≤ p := by have := h.2.1.1; omega
theorem PI.lt {p : Int} (h : PI p) : p.natAbs < 2 ^ 134 := by have := h.2.2; have := h.1; omega
theorem prime_from_ok {n : Int} (h0 : 2 ≤ n) (h1 : n < 10002) : Ok (m_Lprime_from_3e28 n) PI := by
  unfold m_Lprime_from_3e28
  refine Ok.bind (Ok.rng (by omega) (by omega) (by omega) (by omega) (by omega)) fun t ht => ?_
  subst ht
  refine Ok.after (fun _ => True) PI trivial (fun x s hx _ => ?_) (fun r hr => hr) (fun s _ => Ok.pure ⟨by decide, pr_2, by decide⟩)
  have hx2 := mem_rng.mp hx
  refine Ok.bind (Ok.rng (by decide) (by decide) (by decide) (by decide) (by decide)) fun t ht => ?_
  subst ht
  refine Ok.bind (Ok.fil (fun (k : Int) (o : Option Int) => o = none → ¬ (k * k ≤ x ∧ x % k = 0)) fun k hk => ?_) fun ys hys => ?_
  · have hk2 := mem_rng.mp hk
    refine Ok.bind (Ok.mulS (smallI_of (by omega) (by omega))) fun t ht => ?_
    subst ht
    refine Ok.bind (P := fun b : Bool => b = decide (k * k ≤ x ∧ x % k = 0)) (Ok.ite (fun hc => ?_) fun hc => ?_) fun b hb => Ok.ite (fun hc => Ok.pure (fun e => by cases e)) fun hc => Ok.pure fun _ hn => by
      rw [hc, eq_comm, decide_eq_false_iff_not] at hb
      exact hb hn
    · refine Ok.bind (Ok.mod (by omega)) fun t ht => Ok.pure ?_
      rw [decide_eq_true_eq] at hc
      rw [ht.1]
      simp [hc]
    · rw [decide_eq_false_iff_not] at hc
      exact Ok.pure (by simp [hc])
  · refine Ok.ite (fun hc => Ok.ret ⟨by omega, ?_, by omega⟩) fun hc => Ok.next trivial
    rw [decide_eq_true_eq] at hc
    have hall := hys.empty hc
    refine pr_of_trial (by omega) fun k hk hkk hm => ?_
    have hk101 : k < 102 := by
      by_cases z : k < 102
      · exact z
      · have : 102 * 102 ≤ k * k := Nat.mul_le_mul (by omega) (by omega)
        omega
    refine hall (k : Int) (mem_rng.mpr (by omega)) rfl ⟨?_, ?_⟩
    · have : ((k * k : Nat) : Int) ≤ (x.toNat : Int) := by exact_mod_cast hkk
      rw [Int.natCast_mul] at this
      omega
    · have e : ((x.toNat % k : Nat) : Int) = 0 := by rw [hm]; rfl
      rw [Int.natCast_emod] at e
      rw [show (x.toNat : Int) = x by omega] at e
      exact e
theorem cat_ok {α : Type} {xs ys : List α} (h : xs.length + ys.length ≤ 1000000) : Ok (catO xs ys) (fun r => r = xs ++ ys) := .of (if_pos h) rfl
theorem prime_list (x : Int) (hm : x ∈ [(2 : Int), (3 : Int), (5 : Int), (7 : Int), (2 : Int), (11 : Int), (101 : Int), (10007 : Int), (65537 : Int), (1000003 : Int), (998244353 : Int), (1000000007 : Int), (2147483647 : Int), (1000000000039 : Int)] ++ [(1000000000000000003 : Int), (18446744073709551557 : Int), (2305843009213693951 : Int), (618970019642690137449562111 : Int)] ++ [(162259276829213363391578010288127 : Int), (170141183460469231731687303715884105727 : Int)] ++ [(1000000000000000000000000000000000000003 : Int), (9999999999999999999999999999999999999983 : Int)]) : PI x := by
  simp only [List.cons_append, List.nil_append, List.append_assoc, List.mem_cons, List.not_mem_nil, or_false] at hm
  rcases hm with h | h | h | h | h | h | h | h | h | h | h | h | h | h | h | h | h | h | h | h | h | h <;> subst h <;> exact ⟨by decide, by first | exact pr_2 | exact pr_3 | exact pr_5 | exact pr_7 | exact pr_11 | exact pr_101 | exact pr_10007 | exact pr_65537 | exact pr_1000003 | exact pr_998244353 | exact pr_1000000007 | exact pr_2147483647 | exact pr_1000000000039 | exact pr_1000000000000000003 | exact pr_18446744073709551557 | exact pr_2305843009213693951 | exact pr_618970019642690137449562111 | exact pr_162259276829213363391578010288127 | exact pr_170141183460469231731687303715884105727 | exact pr_1000000000000000000000000000000000000003 | exact pr_9999999999999999999999999999999999999983, by decide⟩
theorem prime_ok : Tr m_Lprime_8895 PI := Tr.mk fun b hb => by
  unfold m_Lprime_8895
  refine Ok.let (Ok.bind (cat_ok (by decide)) fun t ht => ?_)
  subst ht
  refine Ok.bind (cat_ok (by decide)) fun t ht => ?_
  subst ht
  refine Ok.bind (cat_ok (by decide)) fun t ht => ?_
  subst ht
  refine Ok.bind ((draw_ok (by decide) (by decide)).ok hb) fun r hr => ?_
  refine Ok.bind (P := fun q : Int × Bag => WB q.2 ∧ PI q.1) (Ok.ite (fun hc => ?_) fun hc => ?_) fun q hq => Ok.pure hq
  · rw [decide_eq_true_eq] at hc
    refine Ok.bind (Ok.ix hr.2.1 (by simpa using hc)) fun t ht => Ok.pure ⟨hr.1, ?_⟩
    exact prime_list t ht.1
  · refine Ok.bind ((draw_ok (by decide) (by decide)).ok hr.1) fun q hq => ?_
    exact Ok.bind (prime_from_ok (by omega) (by omega)) fun t ht => Ok.pure ⟨hq.1, ht⟩
theorem whole_ok (x : Int) : m_Lwhole_0c9c x = some true := rfl
end DL
end
section
namespace DL
structure OvI (p b : Int) (n : Nat) (u : Int × Int × Int × Int) : Prop where
  l0 : 0 < u.1
  r0 : 0 ≤ u.2.1
  rl : u.2.1 < u.1
  lp : u.1 ≤ p
  sz : u.1 * u.2.1 < 2 ^ n
  gc : Int.gcd u.1 u.2.1 = 1
  dm : p ∣ u.2.2.1 * b - u.1
  dp : p ∣ u.2.2.2 * b - u.2.1
  ab : ∃ A B : Int, 0 ≤ A ∧ 0 ≤ B ∧ -A ≤ u.2.2.2 ∧ u.2.2.2 ≤ A ∧ -B ≤ u.2.2.1 ∧ u.2.2.1 ≤ B ∧ A * u.1 + B * u.2.1 ≤ p ∧ B ≤ p
theorem le_mul_pos {a b : Int} (ha : 0 ≤ a) (hb : 1 ≤ b) : a ≤ a * b := by
  have := Int.mul_le_mul_of_nonneg_left hb ha
  rw [Int.mul_one] at this
  exact this
theorem natAbs_of_bound {a p : Int} {n : Nat} (h1 : -p ≤ a) (h2 : a ≤ p) (hp : p.natAbs < n) : a.natAbs < n := by omega
theorem over_ok {p a b : Int} (hp : 1 < p) (hp2 : p.natAbs < 2 ^ 300) (hg : Int.gcd b p = 1) (ha : a.natAbs < 2 ^ 10000) : Ok (m_over_1441 p a b) (fun x => 0 ≤ x ∧ x < p ∧ p ∣ b * x - a) := by
  unfold m_over_1441
  refine Ok.bind (Ok.mod (by omega)) fun t ht => Ok.let ?_
  obtain ⟨ht, t0, t1⟩ := ht
  have hpp : p < 2 ^ 300 := by
    have e : ((2 ^ 300 : Nat) : Int) = 2 ^ 300 := by decide +kernel
    omega
  refine Ok.bind (Ok.loop (OvI p b) 600 ⟨by show 0 < p; omega, t0, t1, Int.le_refl _, ?_, ?_, ?_, ?_, ⟨1, 0, by decide, by decide, by show -(1 : Int) ≤ 1; decide, by show (1 : Int) ≤ 1; decide, by show -(0 : Int) ≤ 0; decide, by show (0 : Int) ≤ 0; decide, by show 1 * p + 0 * t ≤ p; omega, by omega⟩⟩ (by decide) fun n u hi => ?_) fun u hu => ?_
  · show p * t < 2 ^ 600
    have h1 : p * t ≤ p * p := Int.mul_le_mul_of_nonneg_left (by omega) (by omega)
    have h2 : p * p ≤ (2 ^ 300) * (2 ^ 300) := Int.mul_le_mul (by omega) (by omega) (by omega) (by decide +kernel)
    have h3 : p * p < (2 ^ 300) * (2 ^ 300) := by
      have h4 : p * p ≤ p * (2 ^ 300) := Int.mul_le_mul_of_nonneg_left (by omega) (by omega)
      have h5 : p * (2 ^ 300) < (2 ^ 300) * (2 ^ 300) := Int.mul_lt_mul_of_pos_right hpp (by decide +kernel)
      exact Int.lt_of_le_of_lt h4 h5
    have e : ((2 : Int) ^ 300) * (2 ^ 300) = 2 ^ 600 := by decide +kernel
    rw [← e]
    exact Int.lt_of_le_of_lt h1 h3
  · show Int.gcd p t = 1
    rw [ht, Int.emod_def, Int.gcd_sub_mul_left_right, Int.gcd_comm]
    exact hg
  · show p ∣ 0 * b - p
    rw [Int.zero_mul]
    exact ⟨-1, by omega⟩
  · show p ∣ 1 * b - t
    rw [ht, Int.one_mul]
    exact Int.dvd_self_sub_emod
  · obtain ⟨l, r, m, q⟩ := u
    obtain ⟨l0, r0, rl, lp, sz, gc, dm, dp, A, B, hA, hB, q1, q2, m1, m2, hs, hBp⟩ := hi
    simp only at l0 r0 rl lp sz gc dm dp q1 q2 m1 m2 hs
    refine ⟨_, rfl, fun hc => ?_⟩
    rw [decide_eq_true_eq] at hc
    have hc : 0 < r := hc
    have b1 : l.natAbs < 2 ^ 300 := natAbs_of_bound (by omega) lp hp2
    have b2 : r.natAbs < 2 ^ 300 := natAbs_of_bound (p := p) (by omega) (by omega) hp2
    refine Ok.bind (Ok.div 300 hc b2) fun t ht => ?_
    have d1 : r * (l / r) + l % r = l := Int.mul_ediv_add_emod l r
    have d2 : 0 ≤ l % r := Int.emod_nonneg _ (by omega)
    have d3 : l % r < r := Int.emod_lt_of_pos _ hc
    have tt0 : 0 ≤ t := by rw [ht]; exact Int.ediv_nonneg (by omega) (by omega)
    have tr : t * r + l % r = l := by rw [ht, Int.mul_comm]; exact d1
    have tl : t ≤ l := by
      have := le_mul_pos tt0 (show 1 ≤ r by omega)
      omega
    have b3 : t.natAbs < 2 ^ 300 := natAbs_of_bound (p := p) (by omega) (by omega) hp2
    have hAp : A ≤ p := by
      have h1 := le_mul_pos hA (show 1 ≤ l by omega)
      have h2 : 0 ≤ B * r := Int.mul_nonneg hB r0
      omega
    have b4 : q.natAbs < 2 ^ 300 := natAbs_of_bound (p := p) (by omega) (by omega) hp2
    refine Ok.bind (Ok.mul 300 300 b3 b2) fun t5 h5 => Ok.let (Ok.bind (Ok.mul 300 300 b3 b4) fun t7 h7 => Ok.let (Ok.pure ?_))
    subst h5 h7
    show ∃ m', m' < n ∧ OvI p b m' (r, l - t * r, q, m - t * q)
    have n1 : 1 ≤ n := by
      cases n with
      | zero =>
        have h1 := le_mul_pos (show 0 ≤ l by omega) (show 1 ≤ r by omega)
        rw [Int.pow_zero] at sz
        omega
      | succ k => omega
    refine ⟨n - 1, by omega, ⟨hc, by show 0 ≤ l - t * r; omega, by show l - t * r < r; omega, by show r ≤ p; omega, ?_, ?_, dp, ?_, ⟨B + t * A, A, by have := Int.mul_nonneg tt0 hA; omega, hA, ?_, ?_, q1, q2, ?_, hAp⟩⟩⟩
    · show r * (l - t * r) < 2 ^ (n - 1)
      have e1 : (2 : Int) ^ n = 2 * 2 ^ (n - 1) := by
        obtain ⟨k, rfl⟩ : ∃ k, n = k + 1 := ⟨n - 1, by omega⟩
        rw [Int.pow_succ, Nat.add_sub_cancel, Int.mul_comm]
      have e2 : l - t * r = l % r := by omega
      have tpos : 1 ≤ t := by
        by_cases z : t = 0
        · rw [z] at tr
          omega
        · omega
      have e3 : r ≤ t * r := by
        have := Int.mul_le_mul_of_nonneg_right tpos (show 0 ≤ r by omega)
        omega
      have e4 : 2 * (l % r) ≤ l := by omega
      have e5 : r * (2 * (l % r)) ≤ r * l := Int.mul_le_mul_of_nonneg_left e4 (by omega)
      have e6 : r * (2 * (l % r)) = 2 * (r * (l % r)) := by rw [Int.mul_left_comm]
      have e7 : r * l = l * r := Int.mul_comm _ _
      rw [e2]
      omega
    · show Int.gcd r (l - t * r) = 1
      rw [Int.gcd_sub_mul_right_right, Int.gcd_comm]
      exact gc
    · show p ∣ (m - t * q) * b - (l - t * r)
      have e : (m - t * q) * b - (l - t * r) = (m * b - l) - t * (q * b - r) := by
        rw [Int.sub_mul, Int.mul_sub, Int.mul_assoc]
        omega
      rw [e]
      exact Int.dvd_sub dm (Int.dvd_mul_of_dvd_right dp)
    · show -(B + t * A) ≤ m - t * q
      have := Int.mul_le_mul_of_nonneg_left q2 tt0
      omega
    · show m - t * q ≤ B + t * A
      have h1 := Int.mul_le_mul_of_nonneg_left q1 tt0
      rw [Int.mul_neg] at h1
      omega
    · show (B + t * A) * r + A * (l - t * r) ≤ p
      have e : (B + t * A) * r + A * (l - t * r) = A * l + B * r := by
        rw [Int.add_mul, Int.mul_sub, show t * A * r = A * (t * r) by rw [Int.mul_comm t A, Int.mul_assoc]]
        omega
      rw [e]
      exact hs
  · obtain ⟨l, r, m, q⟩ := u
    obtain ⟨hc, k, l0, r0, rl, lp, sz, gc, dm, dp, A, B, hA, hB, q1, q2, m1, m2, hs, hBp⟩ := hu
    have hc := Option.some.inj hc
    rw [decide_eq_false_iff_not] at hc
    simp only at hc l0 r0 rl lp sz gc dm dp q1 q2 m1 m2 hs
    have hr : r = 0 := by omega
    subst hr
    have hl : l = 1 := by
      rw [Int.gcd_zero] at gc
      omega
    subst hl
    have b4 : m.natAbs < 2 ^ 300 := natAbs_of_bound (p := p) (by omega) (by omega) hp2
    refine Ok.bind (Ok.mul 10000 300 ha b4) fun t10 h10 => Ok.bind (Ok.mod (by omega)) fun x hx => Ok.pure ⟨hx.2.1, hx.2.2, ?_⟩
    rw [hx.1, h10]
    show p ∣ b * (a * m % p) - a
    have e : b * (a * m % p) - a = a * (m * b - 1) - b * (a * m - a * m % p) := by
      rw [Int.mul_sub, Int.mul_sub, Int.mul_one, show b * (a * m) = a * (m * b) by rw [Int.mul_left_comm, Int.mul_comm b m]]
      omega
    rw [e]
    exact Int.dvd_sub (Int.dvd_mul_of_dvd_right dm) (Int.dvd_mul_of_dvd_right Int.dvd_self_sub_emod)
theorem PI.gcd {p b : Int} (h : PI p) (hb : b % p ≠ 0) : Int.gcd b p = 1 := by
  have hp := h.1
  have h1 : ¬ p.toNat ∣ b.natAbs := fun z => hb (by
    have h2 : (p.toNat : Int) ∣ b := Int.ofNat_dvd_left.mpr z
    rw [show (p.toNat : Int) = p by omega] at h2
    exact Int.emod_eq_zero_of_dvd h2)
  have h3 := h.2.1.coprime h1
  rw [Int.gcd_comm]
  show Nat.gcd p.natAbs b.natAbs = 1
  rw [show p.natAbs = p.toNat by omega]
  exact h3
end DL
end
section
namespace DL
/-! ### sums of pairs over a word -/
def atW (word : List (Option Int)) (i : Int) : Int := match word[i.toNat]? with
  | some (some l) => l
  | _ => 0
def tot (word : List (Option Int)) : List (T2 Int Int) → Int
  | [] => 0
  | q :: qs => q.b * atW word q.a + tot word qs
theorem tot_nil (word : List (Option Int)) : tot word [] = 0 := rfl
theorem tot_cons (word : List (Option Int)) (q : T2 Int Int) (qs : List (T2 Int Int)) : tot word (q :: qs) = q.b * atW word q.a + tot word qs := rfl
theorem tot_append (word : List (Option Int)) : ∀ xs ys : List (T2 Int Int), tot word (xs ++ ys) = tot word xs + tot word ys
  | [], ys => by simp [tot]
  | x :: xs, ys => by
    show x.b * atW word x.a + tot word (xs ++ ys) = x.b * atW word x.a + tot word xs + tot word ys
    rw [tot_append word xs ys]
    omega
/-- pairs of a word's places, with factors and letters that are not too great -/
structure POk (pairs : List (T2 Int Int)) (word : List (Option Int)) : Prop where
  pl : ∀ q ∈ pairs, 0 ≤ q.a ∧ q.a < word.length
  fa : ∀ q ∈ pairs, q.b.natAbs < 2 ^ 10000
  le : ∀ l, some l ∈ word → l.natAbs < 2 ^ 10000
theorem POk.tail {q : T2 Int Int} {pairs : List (T2 Int Int)} {word : List (Option Int)} (h : POk (q :: pairs) word) : POk pairs word := ⟨fun x hx => h.pl x (List.mem_cons_of_mem _ hx), fun x hx => h.fa x (List.mem_cons_of_mem _ hx), h.le⟩
theorem atW_some {word : List (Option Int)} {i l : Int} (h : word[i.toNat]? = some (some l)) : atW word i = l := by
  unfold atW
  rw [h]
theorem atW_none {word : List (Option Int)} {i : Int} (h : word[i.toNat]? = some none) : atW word i = 0 := by
  unfold atW
  rw [h]
theorem total_ok {p : Int} {pairs : List (T2 Int Int)} {word : List (Option Int)} (hp : 0 < p) (h : POk pairs word) : Ok (m_total_f531 p pairs word) (fun r => r = tot word pairs % p) := by
  unfold m_total_f531
  refine Ok.bind (Ok.foldL (fun qs s => POk qs word ∧ 0 ≤ s ∧ s < p ∧ (s + tot word qs) % p = tot word pairs % p) ⟨h, Int.le_refl _, hp, by rw [Int.zero_add]⟩ fun q qs s ⟨hq, s0, s1, e⟩ => ?_) fun s hs => Ok.pure ?_
  · obtain ⟨h0, h1⟩ := hq.pl q (List.mem_cons_self ..)
    refine Ok.bind (Ok.ix h0 h1) fun o ho => Ok.ite (fun hc => ?_) fun hc => ?_
    · cases o with
      | none => cases hc
      | some l =>
        refine Ok.let (Ok.bind (Ok.mul 10000 10000 (hq.fa q (List.mem_cons_self ..)) (hq.le l ho.1)) fun t ht => Ok.bind (Ok.mod hp) fun r hr => Ok.pure ⟨hq.tail, hr.2.1, hr.2.2, ?_⟩)
        rw [hr.1, ht, ← e]
        rw [tot_cons, atW_some ho.2, Int.emod_add_emod]
        congr 1
        omega
    · cases o with
      | some l => cases hc
      | none =>
        refine Ok.pure ⟨hq.tail, s0, s1, ?_⟩
        rw [← e]
        rw [tot_cons, atW_none ho.2, Int.mul_zero, Int.zero_add]
  · obtain ⟨_, s0, s1, e⟩ := hs
    rw [tot_nil] at e
    rw [Int.add_zero, Int.emod_eq_of_lt s0 s1] at e
    exact e
theorem mod_lt_nat {a p : Int} {n : Nat} (hp : 0 < p) (h : p.natAbs < 2 ^ n) : (a % p).natAbs < 2 ^ n := by
  have h1 := Int.emod_nonneg a (show p ≠ 0 by omega)
  have h2 := Int.emod_lt_of_pos a hp
  omega
end DL
end
section
namespace DL
/-! ### a word with one letter put -/
theorem cut_to {α : Type} (xs : List α) (i : Int) (h0 : 0 ≤ i) (h1 : i ≤ xs.length) : cut xs none (some i) = xs.take i.toNat := by
  unfold cut sIx
  simp only [List.drop_zero, Nat.sub_zero]
  rw [if_neg (by omega), Nat.min_eq_left (by omega)]
theorem cut_from {α : Type} (xs : List α) (i : Int) (h0 : 0 ≤ i) (h1 : i ≤ xs.length) : cut xs (some i) none = xs.drop i.toNat := by
  unfold cut sIx
  simp only
  rw [if_neg (by omega), Nat.min_eq_left (by omega)]
  exact List.take_of_length_le (by rw [List.length_drop]; exact Nat.le_refl _)
theorem put_eq {α : Type} (xs : List α) (i : Int) (x : α) (h0 : 0 ≤ i) (h1 : i < xs.length) : (cut xs none (some i) ++ [x]) ++ cut xs (some (i + 1)) none = xs.set i.toNat x := by
  rw [cut_to xs i h0 (by omega), cut_from xs (i + 1) (by omega) (by omega), List.set_eq_take_append_cons_drop, if_pos (by omega)]
  rw [show (i + 1).toNat = i.toNat + 1 by omega]
  simp
theorem put_ok {α β : Type} {xs : List α} {i : Int} {x : α} {k : List α → Option β} {Q : β → Prop} (h0 : 0 ≤ i) (h1 : i < xs.length) (hl : xs.length ≤ 10000) (h : Ok (k (xs.set i.toNat x)) Q) :
    Ok ((catO (cut xs none (some i)) [x]).bind fun t => (catO t (cut xs (some (i + 1)) none)).bind k) Q := by
  have e1 := cut_to xs i h0 (by omega)
  have e2 := cut_from xs (i + 1) (by omega) (by omega)
  refine Ok.bind (cat_ok (by rw [e1, List.length_take]; simp; omega)) fun t ht => ?_
  subst ht
  refine Ok.bind (cat_ok (by rw [e1, e2, List.length_append, List.length_take, List.length_drop]; simp; omega)) fun t ht => ?_
  subst ht
  rw [put_eq xs i x h0 h1]
  exact h
theorem tot_congr {w1 w2 : List (Option Int)} : ∀ {pairs : List (T2 Int Int)}, (∀ q ∈ pairs, atW w1 q.a = atW w2 q.a) → tot w1 pairs = tot w2 pairs
  | [], _ => rfl
  | q :: qs, h => by
    rw [tot_cons, tot_cons, h q (List.mem_cons_self ..), tot_congr fun x hx => h x (List.mem_cons_of_mem _ hx)]
theorem atW_set_ne {w : List (Option Int)} {j : Nat} {v : Option Int} {i : Int} (h : i.toNat ≠ j) : atW (w.set j v) i = atW w i := by
  unfold atW
  rw [List.getElem?_set_ne (fun z => h z.symm)]
theorem atW_set_eq {w : List (Option Int)} {j : Nat} {x : Int} (h : j < w.length) : atW (w.set j (some x)) (j : Int) = x := by
  refine atW_some ?_
  rw [Int.toNat_natCast, List.getElem?_set_self h]
theorem atW_set_non {w : List (Option Int)} {j : Nat} (h : j < w.length) : atW (w.set j none) (j : Int) = 0 := by
  refine atW_none ?_
  rw [Int.toNat_natCast, List.getElem?_set_self h]
theorem tot_set {w : List (Option Int)} {j : Nat} {f : Int} (hj : j < w.length) (x : Int) : ∀ {pairs : List (T2 Int Int)}, pairs.Pairwise (fun p q => p.a < q.a) → (∀ q ∈ pairs, 0 ≤ q.a) → (⟨(j : Int), f⟩ : T2 Int Int) ∈ pairs → tot (w.set j (some x)) pairs = tot (w.set j none) pairs + f * x
  | [], _, _, h => by simp at h
  | q :: qs, hp, h0, h => by
    obtain ⟨p1, p2⟩ := List.pairwise_cons.mp hp
    rw [tot_cons, tot_cons]
    rcases List.mem_cons.mp h with e | e
    · subst e
      rw [atW_set_eq hj, atW_set_non hj, Int.mul_zero, Int.zero_add]
      rw [tot_congr (w1 := w.set j (some x)) (w2 := w.set j none) fun q hq => by
        have h1 := p1 q hq
        have h1 : (j : Int) < q.a := h1
        rw [atW_set_ne (by omega), atW_set_ne (by omega)]]
      exact Int.add_comm _ _
    · have h1 : q.a < (j : Int) := p1 _ e
      have h2 := h0 q (List.mem_cons_self ..)
      rw [atW_set_ne (by omega), atW_set_ne (by omega), tot_set hj x p2 (fun z hz => h0 z (List.mem_cons_of_mem _ hz)) e]
      omega
/-- of a prime: a factor below it may be left out -/
theorem PI.dvd_of_mul {p f x : Int} (h : PI p) (hf : f % p ≠ 0) (hd : p ∣ f * x) : p ∣ x := by
  have hg := h.gcd hf
  have e : f * x = x * f := Int.mul_comm _ _
  rw [e] at hd
  have h1 : p.natAbs ∣ x.natAbs * f.natAbs := by
    rw [← Int.natAbs_mul]
    exact Int.natAbs_dvd_natAbs.mpr hd
  have h2 : Nat.gcd p.natAbs f.natAbs = 1 := by
    rw [Nat.gcd_comm]
    exact hg
  exact Int.natAbs_dvd_natAbs.mp (Nat.Coprime.dvd_of_dvd_mul_right h2 h1)
theorem eq_of_dvd_sub {p x y : Int} (hx : 0 ≤ x) (hx1 : x < p) (hy : 0 ≤ y) (hy1 : y < p) (h : p ∣ x - y) : x = y := by
  obtain ⟨c, hc⟩ := h
  have h1 : c < 1 := by
    by_cases z : c < 1
    · exact z
    · have := Int.mul_le_mul_of_nonneg_left (show 1 ≤ c by omega) (show 0 ≤ p by omega)
      rw [Int.mul_one] at this
      omega
  have h2 : -1 < c := by
    by_cases z : -1 < c
    · exact z
    · have := Int.mul_le_mul_of_nonneg_left (show c ≤ -1 by omega) (show 0 ≤ p by omega)
      rw [Int.mul_neg, Int.mul_one] at this
      omega
  have h3 : c = 0 := by omega
  rw [h3, Int.mul_zero] at hc
  omega
/-- the same quotient -/
theorem quot_unique {p f a x y : Int} (h : PI p) (hf : f % p ≠ 0) (hx : 0 ≤ x) (hx1 : x < p) (hy : 0 ≤ y) (hy1 : y < p) (d1 : p ∣ f * x - a) (d2 : p ∣ f * y - a) : x = y := by
  refine eq_of_dvd_sub hx hx1 hy hy1 (h.dvd_of_mul hf ?_)
  have e : f * (x - y) = (f * x - a) - (f * y - a) := by
    rw [Int.mul_sub]
    omega
  rw [e]
  exact Int.dvd_sub d1 d2
theorem insS_len (x : Int) : ∀ l : List Int, (insS x l).length ≤ l.length + 1
  | [] => Nat.le_refl _
  | y :: ys => by
    unfold insS
    have := insS_len x ys
    split
    · simp
    · split
      · simp
      · simp only [List.length_cons]
        omega
theorem sset_len : ∀ xs : List Int, (sset xs).length ≤ xs.length
  | [] => Nat.le_refl _
  | x :: xs => by
    have h1 := insS_len x (sset xs)
    have h2 := sset_len xs
    show (insS x (sset xs)).length ≤ xs.length + 1
    omega
theorem sset_pos {xs : List Int} (h : 0 < xs.length) : 0 < (sset xs).length := List.length_pos_of_mem (sset_mem.mpr (List.getElem_mem h))
theorem MapR.pw {R : Int → T2 Int Int → Prop} (hR : ∀ x y, R x y → y.a = x) {xs : List Int} {ys : List (T2 Int Int)} (h : MapR R xs ys) : xs.Pairwise (· < ·) → ys.Pairwise (fun p q => p.a < q.a) := by
  induction h with
  | nil => exact fun _ => List.Pairwise.nil
  | @cons x y xs ys h t ih =>
    intro hp
    obtain ⟨p1, p2⟩ := List.pairwise_cons.mp hp
    refine List.pairwise_cons.mpr ⟨fun q hq => ?_, ih p2⟩
    obtain ⟨z, hz, hr⟩ := t.mem q hq
    rw [hR x y h, hR z q hr]
    exact p1 z hz
end DL
end
section
namespace DL
/-! ### loops by what is left, and by the index -/
theorem Ok.afterL {α σ ρ τ : Type} {xs : List α} {s : σ} {f : α → σ → Option (Fl σ ρ)} {w : ρ → τ} {k : σ → Option τ} {Q : τ → Prop} (Inv : List α → σ → Prop) (R : ρ → Prop) (i : Inv xs s) (h : ∀ x xs s, Inv (x :: xs) s → Ok (f x s) (fun fl => (∀ s', fl = .next s' → Inv xs s') ∧ ∀ r, fl = .ret r → R r)) (hr : ∀ r, R r → Q (w r)) (hk : ∀ s, Inv [] s → Ok (k s) Q) : Ok (afterO (forO xs s f) w k) Q := by
  induction xs generalizing s with
  | nil => exact hk s i
  | cons x xs ih =>
    obtain ⟨fl, h1, h2, h3⟩ := h x xs s i
    show Ok (Option.bind (Option.bind (f x s) _) (aft w k)) Q
    rw [h1]
    cases fl with
    | next s' => exact ih (h2 s' rfl)
    | ret r => exact ⟨_, rfl, hr r (h3 r rfl)⟩
theorem rng_cons {a b : Int} (h : a < b) : rng a b = a :: rng (a + 1) b := by
  unfold rng
  have e : (b - a).toNat = (b - (a + 1)).toNat + 1 := by omega
  rw [e, List.range_succ_eq_map, List.map_cons, List.map_map]
  refine congr (congrArg _ (by simp)) ?_
  refine List.map_congr_left fun i _ => ?_
  show a + ((i + 1 : Nat) : Int) = a + 1 + (i : Int)
  omega
theorem rng_nil {a b : Int} (h : b ≤ a) : rng a b = [] := by
  unfold rng
  rw [show (b - a).toNat = 0 by omega]
  rfl
theorem Ok.afterR {σ ρ τ : Type} {a b : Int} {s : σ} {f : Int → σ → Option (Fl σ ρ)} {w : ρ → τ} {k : σ → Option τ} {Q : τ → Prop} (Inv : Int → σ → Prop) (R : ρ → Prop) (hab : a ≤ b) (i : Inv a s) (h : ∀ x s, a ≤ x → x < b → Inv x s → Ok (f x s) (fun fl => (∀ s', fl = .next s' → Inv (x + 1) s') ∧ ∀ r, fl = .ret r → R r)) (hr : ∀ r, R r → Q (w r)) (hk : ∀ s, Inv b s → Ok (k s) Q) : Ok (afterO (forO (DL.rng a b) s f) w k) Q := by
  refine Ok.afterL (fun xs s => ∃ x, a ≤ x ∧ x ≤ b ∧ xs = DL.rng x b ∧ Inv x s) R ⟨a, Int.le_refl _, hab, rfl, i⟩ (fun y ys s hi => ?_) hr fun s hi => ?_
  · obtain ⟨x, h1, h2, e, hi⟩ := hi
    have hx : x < b := by
      by_cases z : x < b
      · exact z
      · rw [rng_nil (by omega)] at e
        cases e
    rw [rng_cons hx] at e
    cases e
    refine Ok.imp (h y s h1 hx hi) fun fl hf => ⟨fun s' e => ⟨y + 1, by omega, by omega, rfl, hf.1 s' e⟩, hf.2⟩
  · obtain ⟨x, h1, h2, e, hi⟩ := hi
    have hx : x = b := by
      by_cases z : x < b
      · rw [rng_cons z] at e
        cases e
      · omega
    subst hx
    exact hk s hi
theorem Ok.foldR {σ : Type} {a b : Int} {s : σ} {f : Int → σ → Option σ} (Inv : Int → σ → Prop) (hab : a ≤ b) (i : Inv a s) (h : ∀ x s, a ≤ x → x < b → Inv x s → Ok (f x s) (Inv (x + 1))) : Ok (foldO (DL.rng a b) s f) (Inv b) := by
  refine Ok.imp (Ok.foldL (fun xs s => ∃ x, a ≤ x ∧ x ≤ b ∧ xs = DL.rng x b ∧ Inv x s) ⟨a, Int.le_refl _, hab, rfl, i⟩ (fun y ys s hi => ?_)) fun s hi => ?_
  · obtain ⟨x, h1, h2, e, hi⟩ := hi
    have hx : x < b := by
      by_cases z : x < b
      · exact z
      · rw [rng_nil (by omega)] at e
        cases e
    rw [rng_cons hx] at e
    cases e
    exact Ok.imp (h y s h1 hx hi) fun s' hi => ⟨y + 1, by omega, by omega, rfl, hi⟩
  · obtain ⟨x, h1, h2, e, hi⟩ := hi
    have hx : x = b := by
      by_cases z : x < b
      · rw [rng_cons z] at e
        cases e
      · omega
    subst hx
    exact hi
/-! ### checks and nets -/
def CHK (p n : Int) (pairs : List (T2 Int Int)) : Prop := pairs ≠ [] ∧ (∀ q ∈ pairs, 0 ≤ q.a ∧ q.a < n ∧ 1 ≤ q.b ∧ q.b < p) ∧ pairs.Pairwise (fun x y => x.a < y.a)
instance (p n : Int) (pairs : List (T2 Int Int)) : Decidable (CHK p n pairs) := inferInstanceAs (Decidable (_ ∧ _ ∧ _))
def NETP (net : T3 Int Int (List (List (T2 Int Int)))) : Prop := (2 ≤ net.a ∧ 1 ≤ net.b ∧ net.b ≤ 400 ∧ net.c.length ≤ 400) ∧ ∀ x ∈ net.c, CHK net.a net.b x
instance (net : T3 Int Int (List (List (T2 Int Int)))) : Decidable (NETP net) := inferInstanceAs (Decidable (_ ∧ _))
/-- what is gone through ahead of a place -/
structure Pre (p n : Int) (don : List (T2 Int Int)) : Prop where
  good : ∀ q ∈ don, 0 ≤ q.a ∧ q.a < n ∧ 1 ≤ q.b ∧ q.b < p
  pw : don.Pairwise (fun x y => x.a < y.a)
theorem Pre.snoc {p n : Int} {don : List (T2 Int Int)} {q : T2 Int Int} (h : Pre p n don) (hq : 0 ≤ q.a ∧ q.a < n ∧ 1 ≤ q.b ∧ q.b < p) (hl : ∀ x ∈ don, x.a < q.a) : Pre p n (don ++ [q]) := by
  refine ⟨fun x hx => ?_, ?_⟩
  · rcases List.mem_append.mp hx with e | e
    · exact h.good x e
    · rw [List.mem_singleton.mp e]; exact hq
  · rw [List.pairwise_append]
    exact ⟨h.pw, List.pairwise_singleton .., fun x hx y hy => by rw [List.mem_singleton.mp hy]; exact hl x hx⟩
theorem CHK.mid {p n : Int} {don ys : List (T2 Int Int)} {q : T2 Int Int} (h : CHK p n (don ++ q :: ys)) : (0 ≤ q.a ∧ q.a < n ∧ 1 ≤ q.b ∧ q.b < p) ∧ ∀ x ∈ don, x.a < q.a := by
  refine ⟨h.2.1 q (by simp), fun x hx => ?_⟩
  exact (List.pairwise_append.mp h.2.2).2.2 x hx q (List.mem_cons_self ..)
theorem is_check_ok (p n : Int) (pairs : List (T2 Int Int)) : Ok (m_is_check_f382 p n pairs) (fun r => r = decide (CHK p n pairs)) := by
  unfold m_is_check_f382
  refine Ok.let (Ok.afterL (fun xs (last : Int) => ∃ don, pairs = don ++ xs ∧ Pre p n don ∧ (∀ x ∈ don, x.a ≤ last) ∧ ((don = [] ∧ last = -1) ∨ 0 ≤ last ∧ ∃ x ∈ don, x.a = last)) (fun r => r = false ∧ ¬ CHK p n pairs) ⟨[], rfl, ⟨fun q h => by simp at h, .nil⟩, fun q h => by simp at h, .inl ⟨rfl, rfl⟩⟩ (fun q ys last hi => ?_) (fun r hr => by simp [hr.1, hr.2]) fun last hi => ?_)
  · obtain ⟨don, e, hp, hl, hz⟩ := hi
    refine Ok.ite (fun hc => Ok.ret ⟨rfl, fun h => ?_⟩) fun hc => Ok.next ?_
    · rw [e] at h
      obtain ⟨h1, h2⟩ := h.mid
      simp only [Bool.or_eq_true, decide_eq_true_eq] at hc
      rcases hz with ⟨_, z⟩ | ⟨_, x, hx, z⟩
      · omega
      · have := h2 x hx
        omega
    · simp only [Bool.or_eq_false_iff, decide_eq_false_iff_not] at hc
      have q0 : 0 ≤ q.a := by
        rcases hz with ⟨_, z⟩ | ⟨z, _⟩ <;> omega
      refine ⟨don ++ [q], by rw [e]; simp, hp.snoc (by omega) fun x hx => ?_, fun x hx => ?_, .inr ⟨q0, q, by simp, rfl⟩⟩
      · have := hl x hx
        omega
      · rcases List.mem_append.mp hx with e | e
        · have := hl x e
          omega
        · rw [List.mem_singleton.mp e]; exact Int.le_refl _
  · obtain ⟨don, e, hp, hl, hz⟩ := hi
    rw [List.append_nil] at e
    subst e
    refine Ok.pure ?_
    rcases hz with ⟨z, z2⟩ | ⟨z, x, hx, z2⟩
    · have : ¬ CHK p n pairs := fun h => h.1 z
      simp [this, z2]
    · have : CHK p n pairs := ⟨fun e => by rw [e] at hx; simp at hx, hp.good, hp.pw⟩
      simp [this, z]
theorem formed_ok (net : T3 Int Int (List (List (T2 Int Int)))) : Ok (m_formed_20a9 net) (fun r => r = decide (NETP net)) := by
  unfold m_formed_20a9
  refine Ok.ite (fun hc => Ok.pure ?_) fun hc => ?_
  · simp only [Bool.or_eq_true, decide_eq_true_eq] at hc
    unfold lenI at hc
    have : ¬ NETP net := fun h => by
      have := h.1
      omega
    simp [this]
  simp only [Bool.or_eq_false_iff, decide_eq_false_iff_not] at hc
  unfold lenI at hc
  refine Ok.afterL (fun xs _ => (∀ x ∈ net.c, CHK net.a net.b x) ↔ ∀ x ∈ xs, CHK net.a net.b x) (fun r => r = false ∧ ¬ NETP net) Iff.rfl (fun x xs s hi => ?_) (fun r hr => by simp [hr.1, hr.2]) fun s hi => ?_
  · refine Ok.bind (is_check_ok net.a net.b x) fun t ht => Ok.ite (fun h => Ok.ret ⟨rfl, fun hn => ?_⟩) fun h => Ok.next ?_
    · have := hi.mp hn.2 x (List.mem_cons_self ..)
      rw [ht] at h
      simp [this] at h
    · rw [ht] at h
      have h : CHK net.a net.b x := by simpa using h
      rw [hi]
      constructor
      · exact fun g y hy => g y (List.mem_cons_of_mem _ hy)
      · intro g y hy
        rcases List.mem_cons.mp hy with e | e
        · rw [e]; exact h
        · exact g y e
  · have : NETP net := ⟨by omega, hi.mpr fun x hx => by simp at hx⟩
    exact Ok.pure (by simp [this])
end DL
end
section
namespace DL
/-! ### a number that is drawn, prime or not; a copy of a net -/
theorem p_ok : Tr m_Lp_0fed (fun p => 2 ≤ p ∧ p ≤ 10 ^ 60) := Tr.mk fun b hb => by
  unfold m_Lp_0fed
  refine Ok.let (Ok.bind (cat_ok (by decide)) fun t ht => ?_)
  subst ht
  refine Ok.bind ((draw_ok (by decide) (by decide)).ok hb) fun r hr => Ok.ite (fun hc => ?_) fun hc => ?_
  · rw [decide_eq_true_eq] at hc
    refine Ok.bind (Ok.ix hr.2.1 (by simpa using hc)) fun t ht => Ok.pure ⟨hr.1, ?_⟩
    have hm := ht.1
    simp only [List.cons_append, List.nil_append, List.mem_cons, List.not_mem_nil, or_false] at hm
    show 2 ≤ t ∧ t ≤ 10 ^ 60
    clear ht hc hr hb
    omega
  · rw [decide_eq_false_iff_not] at hc
    refine Ok.bind (Ok.pow (by decide) (by decide) (by decide)) fun t5 h5 => Ok.bind (Ok.pow (by decide) (by decide) (by decide)) fun t6 h6 => Ok.bind (Ok.pow (by decide) (by decide) (by decide)) fun t7 h7 => ?_
    have h2 := hr.2
    refine Ok.bind (Ok.ix (by omega) (by simp; omega)) fun t8 h8 => ?_
    have e5 : t5 = 10 ^ 20 := h5
    have e6 : t6 = 10 ^ 60 := h6
    have e7 : t7 = 10 ^ 60 := h7
    have hm := h8.1
    simp only [List.mem_cons, List.not_mem_nil, or_false] at hm
    have : 0 < t8 ∧ t8 ≤ 10 ^ 60 - 2 := by omega
    have k : (10 : Nat) ^ 60 ≤ 2 ^ 1000 := Nat.le_trans (show (10 : Nat) ^ 60 ≤ 2 ^ 200 by decide) (pow_mono (by decide))
    refine Ok.bind ((draw_ok this.1 (by omega)).ok hr.1) fun q hq => Ok.pure ⟨hq.1, by show 2 ≤ 2 + q.1; omega, by show 2 + q.1 ≤ 10 ^ 60; omega⟩
theorem mapO_id {α : Type} : ∀ xs : List α, mapO xs (fun x => some x) = some xs
  | [] => rfl
  | x :: xs => by
    unfold mapO
    rw [Option.bind_some, mapO_id xs]
    rfl
theorem copy_ok (net : T3 Int Int (List (List (T2 Int Int)))) : m_Lcopy_9668 net = some net := by
  unfold m_Lcopy_9668
  rw [mapO_id]
  rfl
theorem Ok.eqv {α : Type} {m : Option α} {x : α} {P : α → Prop} (h : m = some x) (hp : P x) : Ok m P := ⟨x, h, hp⟩
end DL
end
section
namespace DL
/-! ### sums of checks, true words -/
theorem sum_tot {word : List (Option Int)} {pairs : List (T2 Int Int)} {ys : List Int} (h : FilR (fun q o => match o with | some y => y = q.b * atW word q.a | none => atW word q.a = 0) pairs ys) : ys.sum = tot word pairs := by
  induction h with
  | nil => rfl
  | keep h t ih =>
    rw [List.sum_cons, tot_cons, ih]
    have h : _ = _ := h
    rw [h]
  | skip h t ih =>
    rw [tot_cons, ih]
    have h : _ = _ := h
    rw [h, Int.mul_zero, Int.zero_add]
theorem lsum_ok {p : Int} {pairs : List (T2 Int Int)} {word : List (Option Int)} (hp : 0 < p) (h : POk pairs word) : Ok (m_Lsum_03c6 p pairs word) (fun r => r = tot word pairs % p) := by
  unfold m_Lsum_03c6
  refine Ok.bind (Ok.fil (fun q o => match o with | some y => y = q.b * atW word q.a | none => atW word q.a = 0) fun q hq => ?_) fun ys hys => ?_
  · obtain ⟨h0, h1⟩ := h.pl q hq
    refine Ok.bind (Ok.ix h0 h1) fun o ho => Ok.ite (fun hc => ?_) fun hc => Ok.pure ?_
    · refine Ok.bind (Ok.ix h0 h1) fun o2 ho2 => ?_
      have e : o2 = o := Option.some.inj (ho2.2.symm.trans ho.2)
      subst e
      cases o2 with
      | none => cases hc
      | some l =>
        refine Ok.let (Ok.bind (Ok.mul 10000 10000 (h.fa q hq) (h.le l ho.1)) fun t ht => Ok.pure ?_)
        show t = _
        rw [ht, atW_some ho.2]
    · cases o with
      | some l => cases hc
      | none => exact atW_none ho.2
  · refine Ok.bind (Ok.mod hp) fun t ht => Ok.pure ?_
    rw [ht.1, sum_tot hys]
/-- the sum that is told of a check -/
def sumOf (p : Int) (word : List (Option Int)) (pairs : List (T2 Int Int)) : Option Int := if ∃ q ∈ pairs, word[q.a.toNat]? = some none then none else some (tot word pairs % p)
theorem sum_of_ok {p : Int} {pairs : List (T2 Int Int)} {word : List (Option Int)} (hp : 0 < p) (h : POk pairs word) : Ok (m_sum_of_a97b p pairs word) (fun r => r = sumOf p word pairs) := by
  unfold m_sum_of_a97b
  refine Ok.afterL (fun qs _ => (∀ q ∈ qs, q ∈ pairs) ∧ ∀ q ∈ pairs, q ∈ qs ∨ word[q.a.toNat]? ≠ some none) (fun r => r = none ∧ ∃ q ∈ pairs, word[q.a.toNat]? = some none) ⟨fun _ h => h, fun _ h => .inl h⟩ (fun q qs s hi => ?_) (fun r hr => by
    unfold sumOf
    rw [if_pos hr.2]
    exact hr.1) fun s hi => ?_
  · have hm := hi.1 q (List.mem_cons_self ..)
    obtain ⟨h0, h1⟩ := h.pl q hm
    refine Ok.bind (Ok.ix h0 h1) fun o ho => Ok.ite (fun hc => ?_) fun hc => ?_
    · cases o with
      | some l => cases hc
      | none => exact Ok.ret ⟨rfl, q, hm, ho.2⟩
    · refine Ok.next ⟨fun x hx => hi.1 x (List.mem_cons_of_mem _ hx), fun x hx => ?_⟩
      rcases hi.2 x hx with e | e
      · rcases List.mem_cons.mp e with e | e
        · refine .inr fun z => ?_
          rw [e, ho.2] at z
          cases z
          cases hc
        · exact .inl e
      · exact .inr e
  · refine Ok.bind (total_ok hp h) fun t ht => Ok.pure ?_
    unfold sumOf
    rw [if_neg, ht]
    rintro ⟨q, hq, e⟩
    rcases hi.2 q hq with z | z
    · simp at z
    · exact z e
theorem Ok.mapE {α β : Type} {xs : List α} {f : α → Option β} (g : α → β) (h : ∀ x ∈ xs, Ok (f x) (fun y => y = g x)) : Ok (mapO xs f) (fun r => r = xs.map g) := by
  induction xs with
  | nil => exact ⟨[], rfl, rfl⟩
  | cons x xs ih =>
    obtain ⟨o, h1, h2⟩ := h x (List.mem_cons_self ..)
    obtain ⟨ys, g1, g2⟩ := ih fun y hy => h y (List.mem_cons_of_mem _ hy)
    unfold mapO
    rw [h1, Option.bind_some, g1]
    exact ⟨_, rfl, by rw [h2, g2]; rfl⟩
theorem sums_ok {net : T3 Int Int (List (List (T2 Int Int)))} {word : List (Option Int)} (hp : 0 < net.a) (h : ∀ x ∈ net.c, POk x word) : Ok (m_sums_108e net word) (fun r => r = net.c.map (sumOf net.a word)) := by
  unfold m_sums_108e
  refine Ok.bind (Ok.mapE (sumOf net.a word) fun x hx => ?_) fun y hy => Ok.pure hy
  exact Ok.bind (sum_of_ok hp (h x hx)) fun t ht => Ok.pure ht
/-- a word with all its letters for which all checks hold -/
def TRUEW (net : T3 Int Int (List (List (T2 Int Int)))) (word : List (Option Int)) : Prop := (∀ l ∈ word, l.isSome = true) ∧ ∀ x ∈ net.c, tot word x % net.a = 0
instance (net : T3 Int Int (List (List (T2 Int Int)))) (word : List (Option Int)) : Decidable (TRUEW net word) := inferInstanceAs (Decidable (_ ∧ _))
theorem is_true_ok {net : T3 Int Int (List (List (T2 Int Int)))} {word : List (Option Int)} (hp : 0 < net.a) (h : ∀ x ∈ net.c, POk x word) : Ok (m_is_true_dfda net word) (fun r => r = decide (TRUEW net word)) := by
  unfold m_is_true_dfda
  refine Ok.afterL (fun ls _ => (∀ l ∈ ls, l ∈ word) ∧ ((∀ l ∈ word, l.isSome = true) ↔ ∀ l ∈ ls, l.isSome = true)) (fun r => r = false ∧ ¬ TRUEW net word) ⟨fun _ h => h, Iff.rfl⟩ (fun l ls s hi => Ok.ite (fun hc => ?_) fun hc => ?_) (fun r hr => by simp [hr.1, hr.2]) fun s hi => ?_
  · refine Ok.ret ⟨rfl, fun z => ?_⟩
    have := z.1 l (hi.1 l (List.mem_cons_self ..))
    cases l
    · cases this
    · cases hc
  · refine Ok.next ⟨fun x hx => hi.1 x (List.mem_cons_of_mem _ hx), ?_⟩
    rw [hi.2]
    constructor
    · exact fun g y hy => g y (List.mem_cons_of_mem _ hy)
    · intro g y hy
      rcases List.mem_cons.mp hy with e | e
      · rw [e]
        cases l
        · cases hc
        · rfl
      · exact g y e
  · have full : ∀ l ∈ word, l.isSome = true := hi.2.mpr fun l hl => by simp at hl
    have so : ∀ x ∈ net.c, sumOf net.a word x = some (tot word x % net.a) := fun x hx => by
      unfold sumOf
      rw [if_neg]
      rintro ⟨q, hq, e⟩
      have := full none (List.mem_of_getElem? e)
      cases this
    refine Ok.bind (sums_ok hp h) fun t ht => ?_
    have ht : t = net.c.map (fun x => some (tot word x % net.a)) := by
      rw [ht]
      exact List.map_congr_left so
    subst ht
    refine Ok.afterL (fun os _ => (∀ x ∈ net.c, tot word x % net.a = 0) ↔ ∀ o ∈ os, o = some (0 : Int)) (fun r => r = false ∧ ¬ TRUEW net word) ?_ (fun o os s hi => Ok.ite (fun hc => ?_) fun hc => ?_) (fun r hr => by simp [hr.1, hr.2]) fun s hi => ?_
    · simp
    · refine Ok.ret ⟨rfl, fun z => ?_⟩
      have := hi.mp z.2 o (List.mem_cons_self ..)
      simp [this] at hc
    · refine Ok.next ?_
      have hc : o = some 0 := by simpa using hc
      rw [hi]
      constructor
      · exact fun g y hy => g y (List.mem_cons_of_mem _ hy)
      · intro g y hy
        rcases List.mem_cons.mp hy with e | e
        · rw [e]; exact hc
        · exact g y e
    · have : TRUEW net word := ⟨full, hi.mpr fun o ho => by simp at ho⟩
      exact Ok.pure (by simp [this])
theorem small60 {n : Int} (h0 : -(10 ^ 60) ≤ n) (h1 : n ≤ 10 ^ 60) : n.natAbs < 2 ^ 1000 := by
  have k : (10 : Nat) ^ 60 < 2 ^ 1000 := Nat.lt_of_lt_of_le (show (10 : Nat) ^ 60 < 2 ^ 200 by decide) (pow_mono (by decide))
  omega
theorem small60' {n : Int} (h0 : -(10 ^ 60) ≤ n) (h1 : n ≤ 10 ^ 60) : n.natAbs < 2 ^ 10000 := Nat.lt_of_lt_of_le (small60 h0 h1) (pow_mono (by decide))
theorem drawS {n : Int} (h0 : 0 < n) (h1 : n ≤ 10 ^ 60) {b : Bag} (hb : WB b) : Ok (m_Ldraw_f7ac b n) (fun r => WB r.2 ∧ 0 ≤ r.1 ∧ r.1 < n) := (draw_ok h0 (small60 (by omega) h1)).ok hb
theorem ix2 {α : Type} {x y : α} {i : Int} (h : 0 ≤ i ∧ i < 2) : Ok (ixO [x, y] i) (fun r => r = x ∨ r = y) := Ok.imp (Ok.ix h.1 (by simpa using h.2)) fun r hr => by simpa using hr.1
/-- letters below p -/
theorem letters_ok {p n : Int} (hp : 0 < p) (hp1 : p ≤ 10 ^ 60) (hn : 0 ≤ n) (hn1 : n ≤ 100000) : Tr (fun b => m_Lletters_15d5 b p n) (fun r => (r.length : Int) = n ∧ ∀ l ∈ r, 0 ≤ l ∧ l < p) := Tr.mk fun b hb => by
  show Ok (m_Lletters_15d5 b p n) _
  unfold m_Lletters_15d5
  refine Ok.bind (drawS (by decide) (by decide) hb) fun r1 h1 => Ok.ite (fun hc => ?_) fun hc => ?_
  · refine Ok.bind (Ok.rng (by decide) (by decide) (by omega) (by omega) (by omega)) fun t ht => ?_
    subst ht
    refine Ok.bind (Ok.mapB (fun (x y : Int) => 0 ≤ y ∧ y < p) (fun x hx => Tr.mk fun b hb => ?_) h1.1) fun y hy => Ok.pure ⟨hy.1, ?_, fun l hl => ?_⟩
    · refine Ok.bind (drawS hp hp1 hb) fun r5 h5 => Ok.bind (drawS (by decide) (by decide) h5.1) fun r6 h6 => ?_
      have hb2 : b2i (decide (r6.1 = 3)) = 0 ∨ b2i (decide (r6.1 = 3)) = 1 := by
        unfold b2i
        split
        · exact .inr rfl
        · exact .inl rfl
      refine Ok.bind (Ok.mulR (smallI_of (by omega) (by omega))) fun t ht => Ok.pure ⟨h6.1, ?_⟩
      show 0 ≤ t ∧ t < p
      rcases hb2 with e | e <;> rw [ht, e]
      · rw [Int.mul_zero]; omega
      · rw [Int.mul_one]; exact h5.2
    · show ((y.1.length : Nat) : Int) = n
      rw [hy.2.length, rng_length]
      omega
    · obtain ⟨_, _, h⟩ := hy.2.mem l hl
      exact h
  · rw [decide_eq_false_iff_not] at hc
    refine Ok.bind (Ok.rng (by decide) (by decide) (by omega) (by omega) (by omega)) fun t ht => ?_
    subst ht
    refine Ok.bind (Ok.mapB (fun (x y : Int) => 0 ≤ y ∧ y < p) (fun x hx => Tr.mk fun b hb => ?_) h1.1) fun y hy => Ok.pure ⟨hy.1, ?_, fun l hl => ?_⟩
    · have h12 := h1.2
      refine Ok.bind (ix2 (by omega)) fun t ht => ?_
      have hm : minI p 3 ≤ p ∧ 0 < minI p 3 := by
        unfold minI
        split <;> omega
      have : 0 < t ∧ t ≤ p := by omega
      exact Ok.bind (drawS (n := t) (by omega) (by omega) hb) fun r5 h5 => Ok.pure ⟨h5.1, by show 0 ≤ r5.1 ∧ r5.1 < p; omega⟩
    · show ((y.1.length : Nat) : Int) = n
      rw [hy.2.length, rng_length]
      omega
    · obtain ⟨_, _, h⟩ := hy.2.mem l hl
      exact h
end DL
end
section
namespace DL
/-! ### what is left of a number by any p, and pairs that a word holds -/
structure PaI (p b : Int) (n : Nat) (u : Int × Int × Int × Int) : Prop where
  o0 : 0 ≤ u.1
  n0 : 0 ≤ u.2.1
  op : u.1 ≤ p
  np : u.2.1 ≤ p
  sz : (u.2.1 ≤ u.1 ∧ u.1 * u.2.1 < 2 ^ n) ∨ (u.1 < u.2.1 ∧ 1 ≤ n ∧ u.1 * u.2.1 < 2 ^ (n - 1))
  dm : p ∣ u.2.2.1 * b - u.1
  dp : p ∣ u.2.2.2 * b - u.2.1
  ab : ∃ A B : Int, 0 ≤ A ∧ 0 ≤ B ∧ -A ≤ u.2.2.1 ∧ u.2.2.1 ≤ A ∧ -B ≤ u.2.2.2 ∧ u.2.2.2 ≤ B ∧ A * u.2.1 + B * u.1 ≤ p ∧ B ≤ p ∧ A ≤ p
theorem pow_pred {n : Nat} (h : 1 ≤ n) : (2 : Int) ^ n = 2 * 2 ^ (n - 1) := by
  obtain ⟨k, rfl⟩ : ∃ k, n = k + 1 := ⟨n - 1, by omega⟩
  rw [Int.pow_succ, Nat.add_sub_cancel, Int.mul_comm]
theorem part_ok {p b : Int} (hp : 2 ≤ p) (hp1 : p ≤ 10 ^ 60) : Ok (m_Lpart_e5b4 p b) (fun r => 0 ≤ r ∧ r < p ∧ (r = 0 ∨ p ∣ r * b - 1)) := by
  unfold m_Lpart_e5b4
  have hp2 : p.natAbs < 2 ^ 1000 := small60 (by omega) hp1
  refine Ok.bind (Ok.mod (by omega)) fun t ht => Ok.let ?_
  obtain ⟨ht, t0, t1⟩ := ht
  refine Ok.bind (Ok.loop (PaI p b) 401 ⟨t0, by show 0 ≤ p; omega, by show t ≤ p; omega, Int.le_refl _, .inr ⟨t1, by decide, ?_⟩, ?_, ?_, ⟨1, 0, by decide, by decide, by show -(1 : Int) ≤ 1; decide, by show (1 : Int) ≤ 1; decide, by show -(0 : Int) ≤ 0; decide, by show (0 : Int) ≤ 0; decide, by show 1 * p + 0 * t ≤ p; omega, by omega, by omega⟩⟩ (by decide) fun n u hi => ?_) fun u hu => ?_
  · show t * p < 2 ^ 400
    have h1 : t * p ≤ p * p := Int.mul_le_mul_of_nonneg_right (by omega) (by omega)
    have h2 : p * p ≤ (10 ^ 60) * (10 ^ 60) := Int.mul_le_mul hp1 hp1 (by omega) (by decide +kernel)
    have e : ((10 : Int) ^ 60) * (10 ^ 60) < 2 ^ 400 := by decide +kernel
    omega
  · show p ∣ 1 * b - t
    rw [ht, Int.one_mul]
    exact Int.dvd_self_sub_emod
  · show p ∣ 0 * b - p
    rw [Int.zero_mul]
    exact ⟨-1, by omega⟩
  · obtain ⟨l, r, m, q⟩ := u
    obtain ⟨l0, r0, lp, rp', sz, dm, dp, A, B, hA, hB, m1, m2, q1, q2, hs, hBp, hAp⟩ := hi
    simp only at l0 r0 lp rp' sz dm dp q1 q2 m1 m2 hs
    refine ⟨_, rfl, fun hc => ?_⟩
    have hc : 0 < r := by
      have : ¬ r = 0 := by simpa using hc
      omega
    have b1 : l.natAbs < 2 ^ 1000 := natAbs_of_bound (p := p) (by omega) lp hp2
    have b2 : r.natAbs < 2 ^ 1000 := natAbs_of_bound (p := p) (by omega) rp' hp2
    refine Ok.bind (Ok.div 1000 hc b2) fun t ht => ?_
    have d1 : r * (l / r) + l % r = l := Int.mul_ediv_add_emod l r
    have d2 : 0 ≤ l % r := Int.emod_nonneg _ (by omega)
    have d3 : l % r < r := Int.emod_lt_of_pos _ hc
    have tt0 : 0 ≤ t := by rw [ht]; exact Int.ediv_nonneg (by omega) (by omega)
    have tr : t * r + l % r = l := by rw [ht, Int.mul_comm]; exact d1
    have tl : t ≤ l := by
      have := le_mul_pos tt0 (show 1 ≤ r by omega)
      omega
    have b3 : t.natAbs < 2 ^ 1000 := natAbs_of_bound (p := p) (by omega) (by omega) hp2
    have b4 : q.natAbs < 2 ^ 1000 := natAbs_of_bound (p := p) (by omega) (by omega) hp2
    refine Ok.bind (Ok.mul 1000 1000 b3 b2) fun t5 h5 => Ok.bind (Ok.mul 1000 1000 b3 b4) fun t6 h6 => Ok.let (Ok.pure ?_)
    subst h5 h6
    show ∃ m', m' < n ∧ PaI p b m' (r, l - t * r, q, m - t * q)
    have e2 : l - t * r = l % r := by omega
    have hsum : B * (l - t * r) + (A + t * B) * r = A * r + B * l := by
      rw [Int.mul_sub, Int.add_mul, show t * B * r = B * (t * r) by rw [Int.mul_comm t B, Int.mul_assoc]]
      omega
    have tB := Int.mul_nonneg tt0 hB
    have hB' : A + t * B ≤ p := by
      have h1 := le_mul_pos (show 0 ≤ A + t * B by omega) (show 1 ≤ r by omega)
      have h2 : 0 ≤ B * (l - t * r) := Int.mul_nonneg hB (by omega)
      omega
    have szn : 1 ≤ n ∧ r * (l - t * r) < 2 ^ (n - 1) := by
      rcases sz with ⟨s1, s2⟩ | ⟨s1, s2, s3⟩
      · have n1 : 1 ≤ n := by
          cases n with
          | zero =>
            have h1 := le_mul_pos (show 0 ≤ l by omega) (show 1 ≤ r by omega)
            rw [Int.pow_zero] at s2
            omega
          | succ k => omega
        refine ⟨n1, ?_⟩
        have e1 := pow_pred n1
        have tpos : 1 ≤ t := by
          by_cases z : t = 0
          · rw [z] at tr
            omega
          · omega
        have e3 : r ≤ t * r := by
          have := Int.mul_le_mul_of_nonneg_right tpos (show 0 ≤ r by omega)
          omega
        have e4 : 2 * (l % r) ≤ l := by omega
        have e5 : r * (2 * (l % r)) ≤ r * l := Int.mul_le_mul_of_nonneg_left e4 (by omega)
        have e6 : r * (2 * (l % r)) = 2 * (r * (l % r)) := by rw [Int.mul_left_comm]
        have e7 : r * l = l * r := Int.mul_comm _ _
        rw [e2]
        omega
      · refine ⟨s2, ?_⟩
        rw [e2, Int.emod_eq_of_lt l0 s1, Int.mul_comm]
        exact s3
    refine ⟨n - 1, by omega, ⟨r0, by show 0 ≤ l - t * r; omega, rp', by show l - t * r ≤ p; omega, .inl ⟨by show l - t * r ≤ r; omega, szn.2⟩, dp, ?_, ⟨B, A + t * B, hB, by omega, q1, q2, ?_, ?_, ?_, hB', hBp⟩⟩⟩
    · show p ∣ (m - t * q) * b - (l - t * r)
      have e : (m - t * q) * b - (l - t * r) = (m * b - l) - t * (q * b - r) := by
        rw [Int.sub_mul, Int.mul_sub, Int.mul_assoc]
        omega
      rw [e]
      exact Int.dvd_sub dm (Int.dvd_mul_of_dvd_right dp)
    · show -(A + t * B) ≤ m - t * q
      have := Int.mul_le_mul_of_nonneg_left q2 tt0
      omega
    · show m - t * q ≤ A + t * B
      have h1 := Int.mul_le_mul_of_nonneg_left q1 tt0
      rw [Int.mul_neg] at h1
      omega
    · show B * (l - t * r) + (A + t * B) * r ≤ p
      rw [hsum]
      exact hs
  · obtain ⟨l, r, m, q⟩ := u
    obtain ⟨hc, k, hi⟩ := hu
    refine Ok.bind (P := fun r => 0 ≤ r ∧ r < p ∧ (r = 0 ∨ p ∣ r * b - 1)) (Ok.ite (fun h => ?_) fun h => Ok.pure ⟨Int.le_refl _, by omega, .inl rfl⟩) fun r hr => Ok.pure hr
    rw [decide_eq_true_eq] at h
    have h : l = 1 := h
    refine Ok.bind (Ok.mod (by omega)) fun x hx => Ok.pure ⟨hx.2.1, hx.2.2, .inr ?_⟩
    have dm : p ∣ m * b - l := hi.dm
    rw [h] at dm
    rw [hx.1]
    show p ∣ (m % p) * b - 1
    have e : (m % p) * b - 1 = (m * b - 1) - (m - m % p) * b := by
      rw [Int.sub_mul]
      omega
    rw [e]
    exact Int.dvd_sub dm (Int.dvd_mul_of_dvd_left Int.dvd_self_sub_emod)
/-- pairs over n places with factors up to p -/
def PG' (p n : Int) (r : List (T2 Int Int)) : Prop := ∀ q ∈ r, (0 ≤ q.a ∧ q.a < n) ∧ 0 ≤ q.b ∧ q.b ≤ p
/-- a word of n letters below p -/
structure WI (p n : Int) (word : List (Option Int)) : Prop where
  len : (word.length : Int) = n
  le : ∀ l, some l ∈ word → 0 ≤ l ∧ l < p
theorem PG'.pok {p n : Int} {r : List (T2 Int Int)} {word : List (Option Int)} (h : PG' p n r) (w : WI p n word) (hp : p ≤ 10 ^ 60) : POk r word :=
  ⟨fun q hq => by
    have := (h q hq).1
    have := w.len
    omega, fun q hq => by
    have := (h q hq).2
    exact small60' (by omega) (by omega), fun l hl => by
    have := w.le l hl
    exact small60' (by omega) (by omega)⟩
theorem WI.some {p n : Int} {word : List Int} (hl : (word.length : Int) = n) (h : ∀ l ∈ word, 0 ≤ l ∧ l < p) : WI p n (word.map some) := ⟨by rw [List.length_map]; exact hl, fun l hm => by
  obtain ⟨x, hx, e⟩ := List.mem_map.mp hm
  cases e
  exact h _ hx⟩
theorem true_pairs_ok {p n : Int} {row word : List Int} (hp : 2 ≤ p) (hp1 : p ≤ 10 ^ 60) (hr0 : row ≠ []) (hr1 : row.length ≤ 4000) (hrow : ∀ x ∈ row, 0 ≤ x ∧ x < n) (hw : (word.length : Int) = n) (hl : ∀ l ∈ word, 0 ≤ l ∧ l < p) :
    Tr (fun b => m_Ltrue_pairs_2520 b p row word) (fun r => PG' p n r ∧ r.length ≤ row.length ∧ tot (word.map some) r % p = 0) := Tr.mk fun b hb => by
  show Ok (m_Ltrue_pairs_2520 b p row word) _
  unfold m_Ltrue_pairs_2520
  have wi : WI p n (word.map some) := .some hw hl
  have rl := List.length_pos_iff.mpr hr0
  refine Ok.bind (Ok.mapB (fun (x : Int) (q : T2 Int Int) => q.a = x ∧ 1 ≤ q.b ∧ q.b < p) (fun x hx => Tr.mk fun b hb => ?_) hb) fun y hy => ?_
  · exact Ok.bind (drawS (n := p - 1) (by omega) (by omega) hb) fun q hq => Ok.pure ⟨hq.1, rfl, by show 1 ≤ 1 + q.1; omega, by show 1 + q.1 < p; omega⟩
  obtain ⟨hyw, hy⟩ := hy
  generalize y.1 = ps at hy
  have psl := hy.length
  have psg : PG' p n ps := fun q hq => by
    obtain ⟨x, hx, h⟩ := hy.mem q hq
    have := hrow x hx
    omega
  refine Ok.bind (drawS (n := lenI row) (by unfold lenI; omega) (by unfold lenI; omega) hyw) fun r5 h5 => ?_
  refine Ok.bind (Ok.rng (by decide) (by decide) (by unfold lenI; omega) (by unfold lenI; omega) (by unfold lenI; omega)) fun t ht => ?_
  subst ht
  refine Ok.after (fun _ => True) (fun r : List (T2 Int Int) × Bag => WB r.2 ∧ PG' p n r.1 ∧ r.1.length ≤ row.length ∧ tot (word.map some) r.1 % p = 0) trivial (fun x s hx _ => ?_) (fun r hr => hr) fun s _ => ?_
  · refine Ok.bind (Ok.mod (by unfold lenI; omega)) fun at' hat => ?_
    obtain ⟨_, a0, a1⟩ := hat
    unfold lenI at a1
    have a2 : at' < (ps.length : Int) := by omega
    refine Ok.bind (Ok.ix a0 a1) fun rx hrx => ?_
    obtain ⟨x0, x1⟩ := hrow rx hrx.1
    refine Ok.bind (Ok.ix x0 (by omega)) fun wx hwx => Ok.bind (part_ok (b := wx) hp hp1) fun t14 h14 => Ok.ite (fun hc => ?_) fun hc => Ok.next trivial
    have hc : t14 ≠ 0 := by simpa using hc
    have d14 : p ∣ t14 * wx - 1 := h14.2.2.resolve_left hc
    have c1 := cut_to ps at' a0 (by omega)
    have c2 := cut_from ps (at' + 1) (by omega) (by omega)
    rw [c1, c2]
    refine Ok.bind (cat_ok (by simp; omega)) fun t15 h15 => ?_
    subst h15
    have sub : ∀ q ∈ List.take at'.toNat ps ++ List.drop (at' + 1).toNat ps, q ∈ ps := fun q hq => by
      rcases List.mem_append.mp hq with e | e
      · exact List.mem_of_mem_take e
      · exact List.mem_of_mem_drop e
    have sg : PG' p n (List.take at'.toNat ps ++ List.drop (at' + 1).toNat ps) := fun q hq => psg q (sub q hq)
    refine Ok.bind (lsum_ok (by omega) (sg.pok wi hp1)) fun t16 h16 => ?_
    refine Ok.bind (Ok.ix a0 a1) fun rx2 hrx2 => ?_
    have e2 : rx2 = rx := Option.some.inj (hrx2.2.symm.trans hrx.2)
    subst e2
    have t16b : 0 ≤ t16 ∧ t16 < p := by rw [h16]; exact ⟨Int.emod_nonneg _ (by omega), Int.emod_lt_of_pos _ (by omega)⟩
    refine Ok.bind (Ok.mul 10000 10000 (small60' (by omega) (by omega)) (small60' (by omega) (by omega))) fun t18 h18 => Ok.bind (Ok.mod (by omega)) fun t19 h19 => Ok.let ?_
    have aw : atW (word.map some) rx2 = wx := atW_some (by rw [List.getElem?_map, hwx.2]; rfl)
    refine Ok.bind (Ok.fil (fun (q : T2 Int Int) o => o = if t16 = 0 then none else some q) fun q hq => Ok.ite (fun h => Ok.pure ?_) fun h => Ok.pure ?_) fun ys hys => ?_
    · have h : ¬ t16 = 0 := by simpa using h
      rw [if_neg h]
    · have h : t16 = 0 := by simpa using h
      rw [if_pos h]
    have hys2 : ys = if t16 = 0 then [] else [T2.mk rx2 t19] := by
      cases hys with
      | keep h t =>
        cases t
        split at h
        · cases h
        · cases h
          rename_i hz
          rw [if_neg hz]
      | skip h t =>
        cases t
        split at h
        · rename_i hz
          rw [if_pos hz]
        · cases h
    have ysl : ys.length ≤ 1 := by
      rw [hys2]
      split <;> simp
    refine Ok.bind (cat_ok (by simp; omega)) fun t24 h24 => ?_
    subst h24
    refine Ok.bind (cat_ok (by simp; omega)) fun t25 h25 => ?_
    subst h25
    refine Ok.ret ⟨h5.1, fun q hq => ?_, ?_, ?_⟩
    · have hq : q ∈ List.take at'.toNat ps ++ ys ++ List.drop (at' + 1).toNat ps := hq
      simp only [List.mem_append] at hq
      rcases hq with (e | e) | e
      · exact psg q (List.mem_of_mem_take e)
      · rw [hys2] at e
        split at e
        · simp at e
        · rw [List.mem_singleton.mp e]
          exact ⟨⟨x0, x1⟩, h19.2.1, Int.le_of_lt h19.2.2⟩
      · exact psg q (List.mem_of_mem_drop e)
    · show (List.take at'.toNat ps ++ ys ++ List.drop (at' + 1).toNat ps).length ≤ _
      simp
      omega
    · show tot (word.map some) (List.take at'.toNat ps ++ ys ++ List.drop (at' + 1).toNat ps) % p = 0
      rw [tot_append, tot_append]
      rw [tot_append] at h16
      by_cases z : t16 = 0
      · rw [hys2, if_pos z, tot_nil, Int.add_zero, ← h16, z]
      · rw [hys2, if_neg z, tot_cons, tot_nil, Int.add_zero, aw]
        show (tot (word.map some) (List.take at'.toNat ps) + t19 * wx + tot (word.map some) (List.drop (at' + 1).toNat ps)) % p = 0
        refine Int.emod_eq_zero_of_dvd ?_
        have d1 : p ∣ (tot (word.map some) (List.take at'.toNat ps) + tot (word.map some) (List.drop (at' + 1).toNat ps)) - t16 := by
          rw [h16]
          exact Int.dvd_self_sub_emod
        have d2 : p ∣ t18 - t19 := by
          rw [h19.1]
          exact Int.dvd_self_sub_emod
        have d3 : p ∣ t18 * wx + t16 := by
          rw [h18]
          have e : (0 - t16) * t14 * wx + t16 = -(t16 * (t14 * wx - 1)) := by
            rw [Int.zero_sub, Int.neg_mul, Int.neg_mul, Int.mul_assoc, Int.mul_sub, Int.mul_one]
            omega
          rw [e]
          exact Int.dvd_neg.mpr (Int.dvd_mul_of_dvd_right d14)
        have d4 : p ∣ (t18 - t19) * wx := Int.dvd_mul_of_dvd_left d2
        have e : tot (word.map some) (List.take at'.toNat ps) + t19 * wx + tot (word.map some) (List.drop (at' + 1).toNat ps) = ((tot (word.map some) (List.take at'.toNat ps) + tot (word.map some) (List.drop (at' + 1).toNat ps)) - t16) + ((t18 * wx + t16) - (t18 - t19) * wx) := by
          rw [Int.sub_mul]
          omega
        rw [e]
        exact Int.dvd_add d1 (Int.dvd_sub d3 d4)
  · refine Ok.bind (lsum_ok (by omega) (psg.pok wi hp1)) fun t27 h27 => ?_
    refine Ok.bind (P := fun r => PG' p n r ∧ r.length ≤ row.length ∧ tot (word.map some) r % p = 0) (Ok.ite (fun h => Ok.pure ⟨psg, by omega, ?_⟩) fun h => Ok.pure ⟨fun q h => by simp at h, by simp, ?_⟩) fun r hr => Ok.pure ⟨h5.1, hr⟩
    · rw [decide_eq_true_eq] at h
      rw [← h27, h]
    · rw [tot_nil, Int.zero_emod]
end DL
end
section
namespace DL
theorem filKeeps {α : Type} {P : α → Bool} {xs ys : List α} (h : FilR (fun x o => o = if P x = true then some x else none) xs ys) : (∀ y ∈ ys, y ∈ xs ∧ P y = true) ∧ ys.length ≤ xs.length ∧ (ys = [] ↔ ∀ x ∈ xs, P x = false) := by
  induction h with
  | nil => exact ⟨fun y h => by simp at h, Nat.le_refl _, by simp⟩
  | @keep x y xs ys h t ih =>
    have hx : P x = true ∧ y = x := by
      split at h
      · rename_i z
        cases h
        exact ⟨z, rfl⟩
      · cases h
    obtain ⟨h1, h2⟩ := hx
    subst h2
    refine ⟨fun z hz => ?_, by simp; exact ih.2.1, by simp [h1]⟩
    rcases List.mem_cons.mp hz with e | e
    · rw [e]; exact ⟨List.mem_cons_self .., h1⟩
    · exact ⟨List.mem_cons_of_mem _ (ih.1 z e).1, (ih.1 z e).2⟩
  | @skip x xs ys h t ih =>
    have hx : P x = false := by
      split at h
      · cases h
      · rename_i z
        simpa using z
    refine ⟨fun z hz => ⟨List.mem_cons_of_mem _ (ih.1 z hz).1, (ih.1 z hz).2⟩, by simp; omega, ?_⟩
    rw [ih.2.2]
    simp [hx]
theorem filKeep_ok {α : Type} {xs : List α} {f : α → Option (Option α)} (P : α → Bool) (h : ∀ x ∈ xs, Ok (f x) (fun o => o = if P x = true then some x else none)) : Ok (filO xs f) (fun ys => ys = xs.filter P) := by
  induction xs with
  | nil => exact ⟨[], rfl, rfl⟩
  | cons x xs ih =>
    obtain ⟨o, h1, h2⟩ := h x (List.mem_cons_self ..)
    obtain ⟨ys, g1, g2⟩ := ih fun y hy => h y (List.mem_cons_of_mem _ hy)
    unfold filO
    rw [h1, Option.bind_some, g1, h2, List.filter_cons]
    cases e : P x with
    | true => exact ⟨_, rfl, by rw [g2]; simp⟩
    | false => exact ⟨_, rfl, by rw [g2]; simp⟩
theorem keep_ite {α : Type} {x : α} {c : Bool} : Ok (if c = true then some (some x) else some (none : Option α)) (fun o => o = if c = true then some x else none) := by
  cases c <;> exact ⟨_, rfl, rfl⟩
theorem MapR.get {α β : Type} {R : α → β → Prop} {xs : List α} {ys : List β} (h : MapR R xs ys) : ∀ {i : Nat} {y : β}, ys[i]? = some y → ∃ x, xs[i]? = some x ∧ R x y := by
  induction h with
  | nil => intro i y e; simp at e
  | cons h t ih =>
    intro i y e
    cases i with
    | zero =>
      cases e
      exact ⟨_, rfl, h⟩
    | succ i => exact ih (i := i) e
theorem rng_at {a b : Int} {i : Nat} {x : Int} (h : (rng a b)[i]? = some x) : x = a + i ∧ i < (b - a).toNat := by
  unfold rng at h
  rw [List.getElem?_map] at h
  by_cases e : i < (b - a).toNat
  · rw [List.getElem?_range e] at h
    cases h
    exact ⟨rfl, e⟩
  · rw [List.getElem?_eq_none (by rw [List.length_range]; omega)] at h
    cases h
/-- a comprehension over the places of a list -/
theorem Ok.mapIx {α β : Type} {xs : List α} {f : Int → Option β} (g : α → β) (h : ∀ (i : Int) (x : α), 0 ≤ i → i < xs.length → xs[i.toNat]? = some x → x ∈ xs → Ok (f i) (fun y => y = g x)) : Ok (mapO (DL.rng 0 (lenI xs)) f) (fun r => r = xs.map g) := by
  refine Ok.imp (Ok.mapL (fun (i : Int) (y : β) => ∃ x, xs[i.toNat]? = some x ∧ y = g x) fun i hi => ?_) fun ys hys => ?_
  · have hi := mem_rng.mp hi
    unfold lenI at hi
    have hj : i.toNat < xs.length := by omega
    exact Ok.imp (h i xs[i.toNat] hi.1 hi.2 (List.getElem?_eq_getElem hj) (List.getElem_mem hj)) fun y hy => ⟨_, List.getElem?_eq_getElem hj, hy⟩
  · have hl := hys.length
    rw [rng_length] at hl
    unfold lenI at hl
    apply List.ext_getElem?
    intro i
    cases e : ys[i]? with
    | some y =>
      obtain ⟨x, h1, z, h2, h3⟩ := hys.get e
      have h4 := (rng_at h1).1
      rw [show x.toNat = i by omega] at h2
      rw [List.getElem?_map, h2, h3]
      rfl
    | none =>
      have : ys.length ≤ i := List.getElem?_eq_none_iff.mp e
      rw [List.getElem?_eq_none (by rw [List.length_map]; omega)]
theorem tot_sum (word : List (Option Int)) : ∀ pairs : List (T2 Int Int), (pairs.map fun q => q.b * atW word q.a).sum = tot word pairs
  | [] => rfl
  | q :: qs => by rw [List.map_cons, List.sum_cons, tot_cons, tot_sum word qs]
theorem sset_ok {xs : List Int} (h : xs.length ≤ 4000) : Ok (ssetO xs) (fun r => r = sset xs) := .of (if_pos h) rfl
theorem app_ok {α : Type} {xs : List α} {x : α} (h : xs.length < 1000000) : Ok (appO xs x) (fun r => r = xs ++ [x]) := .of (if_pos h) rfl
theorem sset_ne {xs : List Int} (h : 0 < xs.length) : sset xs ≠ [] := fun e => by
  have h2 : xs[0] ∈ sset xs := sset_mem.mpr (List.getElem_mem h)
  rw [e] at h2
  simp at h2
theorem lossyOk (word : List Int) : Tr (fun b => m_Llossy_1c3c b word) (fun w => w.length = word.length ∧ ∀ l, some l ∈ w → l ∈ word) := Tr.mk fun b hb => by
  show Ok (m_Llossy_1c3c b word) _
  unfold m_Llossy_1c3c
  refine Ok.bind ((draw_ok (by decide) (by decide)).ok hb) fun r hr => ?_
  refine Ok.bind (Ok.ix hr.2.1 (by show r.1 < 4; omega)) fun t ht => ?_
  have t0 : 0 < t ∧ t < 9 := by
    have := ht.1
    simp only [List.mem_cons, List.not_mem_nil, or_false] at this
    omega
  refine Ok.bind (Ok.mapB (fun (x : Int) (y : Option Int) => y = none ∨ y = some x) (fun x hx => Tr.mk fun b hb => ?_) hr.1) fun y hy => Ok.pure ⟨hy.1, hy.2.length, fun l hl => ?_⟩
  · refine Ok.bind (drawS (n := t) t0.1 (by omega) hb) fun q hq => ?_
    refine Ok.bind (P := fun o : Option Int => o = none ∨ o = some x) (Ok.ite (fun _ => Ok.pure (.inl rfl)) fun _ => Ok.pure (.inr rfl)) fun o ho => Ok.pure ⟨hq.1, ho⟩
  · obtain ⟨x, hx, h⟩ := hy.2.mem _ hl
    rcases h with h | h
    · cases h
    · cases h
      exact hx
/-- letters that are drawn -/
theorem drawn_ok {p n : Int} (hp : 0 < p) (hp1 : p ≤ 10 ^ 60) {b : Bag} (hb : WB b) (hn : 0 ≤ n) {f : Int → Bag → Option (Int × Bag)} (hf : ∀ x b, f x b = (m_Ldraw_f7ac b p).bind fun r => some (r.1, r.2)) : Ok (mapS (rng 0 n) b f) (fun r => WB r.2 ∧ (r.1.length : Int) = n ∧ ∀ l ∈ r.1, 0 ≤ l ∧ l < p) := by
  refine Ok.imp (Ok.mapB (fun (x y : Int) => 0 ≤ y ∧ y < p) (fun x hx => Tr.mk fun b hb => ?_) hb) fun r hr => ⟨hr.1, ?_, fun l hl => ?_⟩
  · rw [hf]
    exact Ok.bind (drawS hp hp1 hb) fun q hq => Ok.pure hq
  · rw [hr.2.length, rng_length]
    omega
  · obtain ⟨_, _, h⟩ := hr.2.mem l hl
    exact h
theorem min_len {ns : List Int} {t k : Int} (h : 0 ≤ t) (hk : 0 ≤ k) : 0 ≤ minI t k ∧ minI t k ≤ k := by
  unfold minI
  split <;> omega
end DL
end
section
namespace DL
/-! ### texts -/
theorem cutX_len {x : Tx} {lo hi : Option Int} : (cutX x lo hi).cs.length ≤ x.cs.length := by
  show ((x.cs.drop _).take _).length ≤ _
  rw [List.length_take, List.length_drop]
  omega
theorem cutX_tail (x : Tx) : cutX x (some 1) none = ⟨x.cs.drop 1⟩ := by
  show Tx.mk ((x.cs.drop (min 1 x.cs.length)).take (x.cs.length - min 1 x.cs.length)) = _
  congr 1
  cases x.cs with
  | nil => rfl
  | cons c r => simp
theorem cutX_head (x : Tx) : cutX x none (some 1) = ⟨x.cs.take 1⟩ := by
  show Tx.mk ((x.cs.drop 0).take (min 1 x.cs.length - 0)) = _
  congr 1
  cases x.cs with
  | nil => rfl
  | cons c r => simp
theorem catX_ok {x y : Tx} (h : x.cs.length + y.cs.length ≤ 1000000) : Ok (catX x y) (fun r => r = ⟨x.cs ++ y.cs⟩) := .of (if_pos h) rfl
theorem ixX_ok {x : Tx} {i : Int} (h0 : 0 ≤ i) (h1 : i < x.cs.length) : Ok (ixX x i) (fun r => ∃ c, x.cs[i.toNat]? = some c ∧ r = ⟨[c]⟩) := by
  obtain ⟨c, e, _, h⟩ := Ok.ix (xs := x.cs) h0 h1
  unfold ixX
  rw [e]
  exact ⟨_, rfl, c, h, rfl⟩
theorem inX_ok {c : Nat} {y : Tx} : Ok (inX ⟨[c]⟩ y) (fun b => b = decide (c ∈ y.cs)) := ⟨_, rfl, rfl⟩
theorem mem_signs {x s : Tx} (h : s ∈ signsX x) : ∃ c ∈ x.cs, s = ⟨[c]⟩ := by
  obtain ⟨c, hc, e⟩ := List.mem_map.mp h
  exact ⟨c, hc, e.symm⟩
theorem is_dig {c : Nat} : c ∈ [48, 49, 50, 51, 52, 53, 54, 55, 56, 57] ↔ 48 ≤ c ∧ c ≤ 57 := by
  simp only [List.mem_cons, List.not_mem_nil, or_false]
  omega
theorem digs_iff {l : List Nat} : digs l = true ↔ ∀ c ∈ l, 48 ≤ c ∧ c ≤ 57 := by
  unfold digs
  rw [List.all_eq_true]
  exact ⟨fun h c hc => of_decide_eq_true (h c hc), fun h c hc => decide_eq_true (h c hc)⟩
theorem joinX_ok {s : Tx} {xs : List Tx} (h : (xs.map (·.cs.length)).sum + xs.length * s.cs.length ≤ 1000000) : Ok (joinX s xs) (fun r => r = ⟨joinN s.cs (xs.map (·.cs))⟩) := .of (if_pos h) rfl
theorem tx_nil {x : Tx} (h : x.cs = []) : x = Tx.mk [] := by
  cases x
  cases h
  rfl
theorem cut_two {x : Tx} {a b : Int} (a0 : 0 ≤ a) (ab : a ≤ b) : (cutX x none (some a)).cs.length + (cutX x (some b) none).cs.length ≤ x.cs.length := by
  show ((x.cs.drop _).take _).length + ((x.cs.drop _).take _).length ≤ _
  rw [List.length_take, List.length_drop, List.length_take, List.length_drop]
  unfold sIxX
  dsimp only
  rw [if_neg (by omega), if_neg (by omega)]
  omega
/-! ### numbers read -/
def figsX (t : Tx) : Tx := if t.cs.take 1 = [45] then ⟨t.cs.drop 1⟩ else t
def valueX (t : Tx) (most : Int) : Option Int :=
  if (figsX t).cs = [] ∨ most < (figsX t).cs.length ∨ digs (figsX t).cs = false then none
  else if (figsX t).cs[0]? = some 48 ∧ 1 < t.cs.length then none else intX t
theorem figsX_len (t : Tx) : (figsX t).cs.length ≤ t.cs.length := by
  unfold figsX
  split
  · show (t.cs.drop 1).length ≤ _
    rw [List.length_drop]
    omega
  · exact Nat.le_refl _
theorem intX_some {t : Tx} (hl : t.cs.length ≤ 640) (h1 : (figsX t).cs ≠ []) (h2 : digs (figsX t).cs = true) : ∃ v, intX t = some v := by
  unfold intX
  rw [if_neg (by omega)]
  unfold figsX at h1 h2
  cases e : t.cs with
  | nil =>
    rw [e, if_neg (by decide)] at h1
    exact absurd e h1
  | cons c ds =>
    dsimp only
    by_cases z : c = 45
    · rw [if_pos z]
      rw [e, if_pos (by rw [z]; rfl)] at h1 h2
      exact ⟨_, if_pos ⟨h1, h2⟩⟩
    · rw [if_neg z]
      rw [if_neg (by rw [e]; intro y; exact z (List.cons.inj y).1), e] at h2
      exact ⟨_, if_pos h2⟩
end DL
end
section
namespace DL
/-! ### numbers written -/
theorem digN : ∀ d : Nat, d < 10 → (Nat.digitChar d).toNat = 48 + d := by decide
theorem numN_lt {n : Nat} (h : n < 10) : numN n = [48 + n] := by
  unfold numN
  rw [Nat.toDigits_of_lt_base h]
  show [(Nat.digitChar n).toNat] = _
  rw [digN n h]
theorem numN_step {n : Nat} (h : 10 ≤ n) : numN n = numN (n / 10) ++ [48 + n % 10] := by
  have hm : n % 10 < 10 := Nat.mod_lt n (by decide)
  have t : Nat.toDigits 10 (n / 10) ++ Nat.toDigits 10 (n % 10) = Nat.toDigits 10 (10 * (n / 10) + n % 10) := Nat.toDigits_append_toDigits (by decide) (by omega) hm
  rw [Nat.div_add_mod] at t
  show (Nat.toDigits 10 n).map Char.toNat = (Nat.toDigits 10 (n / 10)).map Char.toNat ++ [48 + n % 10]
  rw [← t, List.map_append, Nat.toDigits_of_lt_base hm, List.map_cons, List.map_nil, digN _ hm]
theorem numN_dig (n : Nat) : ∀ c ∈ numN n, 48 ≤ c ∧ c ≤ 57 := by
  induction n using Nat.strongRecOn with
  | _ n ih =>
    by_cases h : n < 10
    · rw [numN_lt h]
      intro c hc
      rw [List.mem_singleton.mp hc]
      omega
    · rw [numN_step (by omega)]
      intro c hc
      rcases List.mem_append.mp hc with hc | hc
      · exact ih (n / 10) (by omega) c hc
      · rw [List.mem_singleton.mp hc]
        omega
theorem numN_ne (n : Nat) : numN n ≠ [] := by
  by_cases h : n < 10
  · rw [numN_lt h]; simp
  · rw [numN_step (by omega)]; simp
theorem valN_snoc (l : List Nat) (c : Nat) : valN (l ++ [c]) = valN l * 10 + (c - 48) := by
  unfold valN
  rw [List.foldl_append]
  rfl
theorem numN_val (n : Nat) : valN (numN n) = n := by
  induction n using Nat.strongRecOn with
  | _ n ih =>
    by_cases h : n < 10
    · rw [numN_lt h]
      show 0 * 10 + (48 + n - 48) = n
      omega
    · rw [numN_step (by omega), valN_snoc, ih (n / 10) (by omega)]
      omega
theorem numN_len (k : Nat) : ∀ n : Nat, n < 10 ^ k → 0 < k → (numN n).length ≤ k := by
  induction k with
  | zero => intro n _ h; omega
  | succ k ih =>
    intro n h _
    by_cases z : n < 10
    · rw [numN_lt z]; show 1 ≤ _; omega
    · rw [numN_step (by omega), List.length_append]
      have p : 10 ^ (k + 1) = 10 ^ k * 10 := Nat.pow_succ ..
      have k0 : 0 < k := by
        rcases Nat.eq_zero_or_pos k with e | e
        · subst e; omega
        · exact e
      have := ih (n / 10) (by omega) k0
      show _ + 1 ≤ _
      omega
theorem numN_head (n : Nat) : (numN n)[0]? = some 48 → n = 0 := by
  induction n using Nat.strongRecOn with
  | _ n ih =>
    intro e
    by_cases h : n < 10
    · rw [numN_lt h] at e
      have : 48 + n = 48 := Option.some.inj e
      omega
    · rw [numN_step (by omega)] at e
      have pos : 0 < (numN (n / 10)).length := List.length_pos_iff.mpr (numN_ne _)
      rw [List.getElem?_append_left pos] at e
      have := ih (n / 10) (by omega) e
      omega
/-- figures, or a - ahead of them -/
def SGN (c : Nat) : Prop := c = 45 ∨ (48 ≤ c ∧ c ≤ 57)
theorem strX_sgn {n : Int} : ∀ c ∈ (strX n).cs, SGN c := by
  unfold strX
  split
  · intro c hc
    rcases List.mem_cons.mp hc with e | e
    · exact .inl e
    · exact .inr (numN_dig _ c e)
  · exact fun c hc => .inr (numN_dig _ c hc)
def N60 (n : Int) : Prop := n.natAbs < 10 ^ 60
theorem N60.of {n : Int} (h0 : -(10 ^ 60) < n) (h1 : n < 10 ^ 60) : N60 n := by unfold N60; omega
theorem strX_len {n : Int} (h : N60 n) : (strX n).cs.length ≤ 61 := by
  have := numN_len 60 n.natAbs h (by decide)
  unfold strX
  split
  · show (_ :: _).length ≤ _
    rw [List.length_cons]
    omega
  · show (numN _).length ≤ _
    omega
theorem strX_ne (n : Int) : (strX n).cs ≠ [] := by
  unfold strX
  split
  · simp
  · exact numN_ne _
theorem strO_ok {n : Int} (h : N60 n) : Ok (strO n) (fun r => r = strX n) := .of (if_pos (Nat.lt_of_lt_of_le h (Nat.pow_le_pow_right (by decide) (by decide)))) rfl
theorem figs_okT (t : Tx) : Ok (if (decide ((cutX t none (some (1 : Int))) = (Tx.mk [45]))) = true then some (cutX t (some (1 : Int)) none) else some t) (fun r => r = figsX t) := by
  rw [cutX_head, cutX_tail]
  unfold figsX
  refine Ok.ite (fun z => Ok.pure ?_) fun z => Ok.pure ?_
  · rw [if_pos (Tx.mk.inj (of_decide_eq_true z))]
  · rw [if_neg fun y => of_decide_eq_false z (by rw [y])]
theorem figs_str (n : Int) : figsX (strX n) = ⟨numN n.natAbs⟩ := by
  unfold strX figsX
  by_cases z : n < 0
  · rw [if_pos z, if_pos (by rfl)]
    rfl
  · rw [if_neg z]
    rw [if_neg]
    intro e
    have e : (numN n.natAbs).take 1 = [45] := e
    have := numN_dig n.natAbs 45 (List.mem_of_mem_take (e ▸ List.mem_singleton.mpr rfl))
    omega
theorem intX_str {n : Int} (h : N60 n) : intX (strX n) = some n := by
  have l := strX_len h
  have d := digs_iff.mpr (numN_dig n.natAbs)
  have v := numN_val n.natAbs
  have ne := numN_ne n.natAbs
  unfold intX
  rw [if_neg (by omega)]
  unfold strX
  by_cases z : n < 0
  · rw [if_pos z]
    dsimp only
    rw [if_pos rfl, if_pos ⟨ne, d⟩, v]
    congr 1
    omega
  · rw [if_neg z]
    cases e : numN n.natAbs with
    | nil => exact absurd e ne
    | cons c ds =>
      dsimp only
      have hc := numN_dig n.natAbs c (by rw [e]; exact List.mem_cons_self ..)
      rw [if_neg (by omega), if_pos (by rw [← e]; exact d), ← e, v]
      congr 1
      omega
theorem read_str {n : Int} (h : N60 n) : Ok (m_read_whole_df87 (strX n) 60) (fun r => r = n) := by
  unfold m_read_whole_df87
  refine Ok.bind (figs_okT _) fun f hf => ?_
  rw [figs_str] at hf
  subst hf
  have nl := numN_len 60 n.natAbs h (by decide)
  have ne := numN_ne n.natAbs
  refine Ok.ite (fun z => ?_) fun _ => ?_
  · rw [Bool.or_eq_true, decide_eq_true_eq, decide_eq_true_eq] at z
    rcases z with z | z
    · exact absurd (Tx.mk.inj z) ne
    · have z : (60 : Int) < ((numN n.natAbs).length : Int) := z
      omega
  · refine Ok.after (fun _ : Unit => True) (fun _ => False) trivial (fun x s hx _ => ?_) (fun r hr => hr.elim) fun _ _ => ?_
    · obtain ⟨c, hc, e⟩ := mem_signs hx
      subst e
      refine Ok.bind inX_ok fun t7 h7 => ?_
      have : t7 = true := by rw [h7]; exact decide_eq_true (is_dig.mpr (numN_dig _ c hc))
      rw [this]
      exact Ok.ite (fun z => by cases z) fun _ => Ok.next trivial
    · have pos : 0 < (numN n.natAbs).length := List.length_pos_iff.mpr ne
      refine Ok.bind (ixX_ok (x := ⟨numN n.natAbs⟩) (Int.le_refl _) (by show (0 : Int) < (numN n.natAbs).length; omega)) fun t9 ⟨c, hc, e9⟩ => ?_
      subst e9
      refine Ok.ite (fun z => ?_) fun _ => Ok.bind (P := fun v => v = n) ⟨n, intX_str h, rfl⟩ fun t10 h10 => Ok.pure h10
      rw [Bool.and_eq_true, decide_eq_true_eq, decide_eq_true_eq] at z
      have e : c = 48 := by simpa using Tx.mk.inj z.1
      have n0 := numN_head n.natAbs (by rw [← e]; exact hc)
      have : n = 0 := by omega
      subst this
      have := z.2
      exact absurd this (by decide)
/-! ### joined and split -/
theorem joinN_cons (s p : List Nat) : ∀ xs : List (List Nat), joinN s (p :: xs) = p ++ (xs.map (s ++ ·)).flatten
  | [] => by simp [joinN]
  | q :: r => by
    show p ++ (s ++ joinN s (q :: r)) = _
    rw [joinN_cons s q r, List.map_cons, List.flatten_cons, List.append_assoc]
theorem joinN_flat : ∀ xs : List (List Nat), joinN [] xs = xs.flatten
  | [] => rfl
  | p :: xs => by
    rw [joinN_cons, List.flatten_cons]
    congr 2
    exact List.map_id' xs
theorem splN_part {c : Nat} {r : List Nat} : ∀ {p acc : List Nat}, c ∉ p → splN c acc (p ++ c :: r) = (acc ++ p) :: splN c [] r
  | [], acc, _ => by
    show (if c = c then acc :: splN c [] r else _) = _
    rw [if_pos rfl, List.append_nil]
  | d :: p, acc, h => by
    show (if d = c then _ else splN c (acc ++ [d]) (p ++ c :: r)) = _
    rw [if_neg fun e => h (by rw [e]; exact List.mem_cons_self ..), splN_part fun m => h (List.mem_cons_of_mem _ m), List.append_assoc]
    rfl
theorem splN_last {c : Nat} : ∀ {p acc : List Nat}, c ∉ p → splN c acc p = [acc ++ p]
  | [], acc, _ => by rw [List.append_nil]; rfl
  | d :: p, acc, h => by
    show (if d = c then _ else splN c (acc ++ [d]) p) = _
    rw [if_neg fun e => h (by rw [e]; exact List.mem_cons_self ..), splN_last fun m => h (List.mem_cons_of_mem _ m), List.append_assoc]
    rfl
theorem splN_join {c : Nat} : ∀ {p : List Nat} {xs : List (List Nat)}, c ∉ p → (∀ x ∈ xs, c ∉ x) → splN c [] (joinN [c] (p :: xs)) = p :: xs
  | p, [], h, _ => splN_last h
  | p, q :: r, h, k => by
    show splN c [] (p ++ c :: joinN [c] (q :: r)) = _
    rw [splN_part h, splN_join (k q (List.mem_cons_self ..)) fun x hx => k x (List.mem_cons_of_mem _ hx)]
    rfl
theorem split_join {c : Nat} {p : Tx} {xs : List Tx} (h : c ∉ p.cs) (k : ∀ x ∈ xs, c ∉ x.cs) (l : (joinN [c] (p.cs :: xs.map (·.cs))).length ≤ 900000) : Ok (splitX ⟨joinN [c] (p.cs :: xs.map (·.cs))⟩ ⟨[c]⟩) (fun r => r = p :: xs) := by
  refine ⟨_, if_pos (show (joinN [c] (p.cs :: xs.map (·.cs))).length + 2 ≤ 1000000 by omega), ?_⟩
  show (splN c [] (joinN [c] (p.cs :: xs.map (·.cs)))).map Tx.mk = _
  rw [splN_join h fun x hx => ?_]
  · rw [List.map_cons, List.map_map]
    congr 1
    exact List.map_id' xs
  · obtain ⟨y, hy, e⟩ := List.mem_map.mp hx
    subst e
    exact k y hy
theorem joinX_cons {s p : Tx} {xs : List Tx} (h : ((p :: xs).map (·.cs.length)).sum + (xs.length + 1) * s.cs.length ≤ 1000000) : Ok (joinX s (p :: xs)) (fun r => r = ⟨joinN s.cs (p.cs :: xs.map (·.cs))⟩) := joinX_ok h
/-- a row of words -/
def rowT (f : Tx) (ws : List Tx) : List Nat := joinN [32] (f.cs :: ws.map (·.cs))
theorem cut_one {α : Type} (x : α) (xs : List α) : cut (x :: xs) (some 1) none = xs := by
  unfold cut
  have e1 : sIx (x :: xs).length 0 (some 1) = 1 := by
    show min 1 (xs.length + 1) = 1
    omega
  have e2 : sIx (x :: xs).length (x :: xs).length none = xs.length + 1 := rfl
  rw [e1, e2, Nat.add_sub_cancel, List.drop_succ_cons, List.drop_zero, List.take_length]
theorem split_joinL {c : Nat} {xs : List Tx} (ne : xs ≠ []) (k : ∀ x ∈ xs, c ∉ x.cs) (l : (joinN [c] (xs.map (·.cs))).length ≤ 900000) : Ok (splitX ⟨joinN [c] (xs.map (·.cs))⟩ ⟨[c]⟩) (fun r => r = xs) := by
  cases xs with
  | nil => exact absurd rfl ne
  | cons p xs => exact split_join (k p (List.mem_cons_self ..)) (fun x hx => k x (List.mem_cons_of_mem _ hx)) l
theorem joinN_lenB (s : List Nat) (B : Nat) {xs : List Tx} (h : ∀ x ∈ xs, x.cs.length ≤ B) : (joinN s (xs.map (·.cs))).length ≤ xs.length * (B + s.length) ∧ (xs.map (·.cs.length)).sum ≤ xs.length * B := by
  have e : (xs.map (·.cs.length)).sum ≤ xs.length * B := by
    induction xs with
    | nil => exact Nat.zero_le _
    | cons x xs ih =>
      rw [List.map_cons, List.sum_cons, List.length_cons, Nat.add_mul]
      have := h x (List.mem_cons_self ..)
      have := ih fun y hy => h y (List.mem_cons_of_mem _ hy)
      omega
  have := joinN_len s (xs.map (·.cs))
  rw [List.map_map, List.length_map] at this
  refine ⟨Nat.le_trans this ?_, e⟩
  rw [Nat.mul_add]
  exact Nat.add_le_add_right e _
theorem rowT_mem {c : Nat} {f : Tx} {ws : List Tx} (h : c ∈ rowT f ws) : c = 32 ∨ c ∈ f.cs ∨ ∃ w ∈ ws, c ∈ w.cs := by
  rcases joinN_mem h with m | ⟨x, hx, m⟩
  · exact .inl (List.mem_singleton.mp m)
  · rcases List.mem_cons.mp hx with e | e
    · rw [e] at m
      exact .inr (.inl m)
    · obtain ⟨w, hw, ew⟩ := List.mem_map.mp e
      subst ew
      exact .inr (.inr ⟨w, hw, m⟩)
theorem rowT_len {f : Tx} {ws : List Tx} {B : Nat} (h : ∀ w ∈ ws, w.cs.length ≤ B) : (rowT f ws).length ≤ f.cs.length + ws.length * (B + 1) := by
  unfold rowT
  rw [joinN_cons, List.length_append]
  have : ((ws.map (·.cs)).map ([32] ++ ·)).flatten.length ≤ ws.length * (B + 1) := by
    induction ws with
    | nil => exact Nat.zero_le _
    | cons w ws ih =>
      rw [List.map_cons, List.map_cons, List.flatten_cons, List.length_append, List.length_cons, Nat.add_mul]
      have := h w (List.mem_cons_self ..)
      have := ih fun y hy => h y (List.mem_cons_of_mem _ hy)
      have : ([32] ++ w.cs).length = w.cs.length + 1 := by simp
      omega
  omega
theorem join_row {f : Tx} {ws : List Tx} {B : Nat} (h : ∀ w ∈ ws, w.cs.length ≤ B) (l : f.cs.length + ws.length * (B + 1) ≤ 900000) : Ok (joinX ⟨[32]⟩ (f :: ws)) (fun r => r = ⟨rowT f ws⟩) := by
  refine joinX_cons ?_
  have := (joinN_lenB [32] B h).2
  rw [Nat.mul_add] at l
  rw [List.map_cons, List.sum_cons]
  show _ + _ + (ws.length + 1) * 1 ≤ _
  omega
theorem words_ok {f : Tx} {ws : List Tx} (hf : 32 ∉ f.cs) (hw : ∀ w ∈ ws, 32 ∉ w.cs) (l : (rowT f ws).length ≤ 900000) : Ok (m_words_behind_285f ⟨rowT f ws⟩ f) (fun r => r = ws) := by
  unfold m_words_behind_285f
  refine Ok.bind (split_join hf hw l) fun t1 h1 => ?_
  subst h1
  refine Ok.bind (P := fun t => t = f) (Ok.imp (Ok.ix (xs := f :: ws) (Int.le_refl _) (by rw [List.length_cons]; omega)) fun r hr => (Option.some.inj hr.2).symm) fun t2 h2 => ?_
  subst h2
  rw [decide_eq_true rfl]
  exact Ok.ite (fun z => by cases z) fun _ => Ok.pure (cut_one _ _)
theorem mapO_back {α β : Type} {f : β → Option α} {g : α → β} : ∀ {xs : List α}, (∀ x ∈ xs, Ok (f (g x)) (fun r => r = x)) → Ok (mapO (xs.map g) f) (fun r => r = xs)
  | [], _ => ⟨_, rfl, rfl⟩
  | x :: xs, h => by
    obtain ⟨y, e, rfl⟩ := h x (List.mem_cons_self ..)
    obtain ⟨ys, e2, rfl⟩ := mapO_back (f := f) (g := g) (xs := xs) fun z hz => h z (List.mem_cons_of_mem _ hz)
    refine ⟨y :: ys, ?_, rfl⟩
    rw [List.map_cons]
    unfold mapO
    rw [e, Option.bind_some, e2]
    rfl
theorem str_free {n : Int} {c : Nat} (h : c ≠ 45) (k : c < 48 ∨ 57 < c) : c ∉ (strX n).cs := fun m => by
  rcases strX_sgn c m with e | e
  · exact h e
  · omega
theorem numbers_ok {f : Tx} {ns : List Int} (hf : 32 ∉ f.cs) (hn : ∀ n ∈ ns, N60 n) (l : f.cs.length + ns.length * 62 ≤ 900000) : Ok (m_numbers_behind_4155 ⟨rowT f (ns.map strX)⟩ f) (fun r => r = ns) := by
  unfold m_numbers_behind_4155
  have b : ∀ w ∈ ns.map strX, w.cs.length ≤ 61 := fun w hw => by
    obtain ⟨n, hn', e⟩ := List.mem_map.mp hw
    subst e
    exact strX_len (hn n hn')
  refine Ok.bind (words_ok hf (fun w hw => ?_) ?_) fun t1 h1 => ?_
  · obtain ⟨n, _, e⟩ := List.mem_map.mp hw
    subst e
    exact str_free (by decide) (by decide)
  · have := rowT_len (f := f) b
    rw [List.length_map] at this
    omega
  · subst h1
    exact Ok.bind (mapO_back fun n hn' => Ok.bind (read_str (hn n hn')) fun t5 h5 => Ok.pure h5) fun y hy => Ok.pure hy
/-! ### words -/
def letT : Option Int → Tx
  | none => ⟨[45]⟩
  | some n => strX n
def W60 (w : List (Option Int)) : Prop := (∀ n, some n ∈ w → N60 n) ∧ w.length ≤ 1000
abbrev wordF : Tx := Tx.mk [119, 111, 114, 100]
def wordT (w : List (Option Int)) : List Nat := rowT wordF (w.map letT)
theorem letT_len {w : List (Option Int)} (h : W60 w) : ∀ x ∈ w.map letT, x.cs.length ≤ 61 := fun x hx => by
  obtain ⟨o, ho, e⟩ := List.mem_map.mp hx
  subst e
  cases o with
  | none => show 1 ≤ 61; decide
  | some n => exact strX_len (h.1 n ho)
theorem letT_sgn {o : Option Int} : ∀ c ∈ (letT o).cs, SGN c := by
  cases o with
  | none => intro c hc; exact .inl (List.mem_singleton.mp hc)
  | some n => exact strX_sgn
theorem sgn_free {c : Nat} {l : List Nat} (h : ∀ c ∈ l, SGN c) (k : c ≠ 45) (k2 : c < 48 ∨ 57 < c) : c ∉ l := fun m => by
  rcases h c m with e | e
  · exact k e
  · omega
theorem wordT_len {w : List (Option Int)} (h : W60 w) : (wordT w).length ≤ 62004 := by
  have := rowT_len (f := wordF) (letT_len h)
  rw [List.length_map] at this
  have := h.2
  unfold wordT
  have : wordF.cs.length = 4 := rfl
  omega
theorem word_text_ok {w : List (Option Int)} (h : W60 w) : Ok (m_word_text_c7d1 w) (fun r => r = ⟨wordT w⟩) := by
  unfold m_word_text_c7d1
  refine Ok.bind (Ok.mapE letT fun o ho => Ok.bind (P := fun r => r = letT o) (Ok.ite (fun z => Ok.pure ?_) fun z => ?_) fun t h => Ok.pure h) fun y hy => ?_
  · cases o with
    | none => rfl
    | some n => simp at z
  · cases o with
    | none => simp at z
    | some n => exact Ok.bind (P := fun t => t = n) (Ok.pure rfl) fun t6 h6 => by rw [h6]; exact Ok.bind (strO_ok (h.1 n ho)) fun t7 h7 => Ok.pure h7
  · have l := h.2
    refine Ok.bind (cat_ok (by rw [hy, List.length_map]; show 1 + _ ≤ _; omega)) fun t10 h10 => ?_
    subst h10 hy
    refine Ok.bind (join_row (f := wordF) (ws := w.map letT) (letT_len h) (by show 4 + (w.map letT).length * 62 ≤ 900000; rw [List.length_map]; omega)) fun t11 h11 => Ok.pure h11
theorem letT_some {n : Int} : letT (some n) ≠ ⟨[45]⟩ := fun e => by
  have e : (strX n).cs = [45] := Tx.mk.inj e
  have f := figs_str n
  unfold figsX at f
  rw [e, if_pos (by decide)] at f
  have := Tx.mk.inj f
  exact numN_ne _ this.symm
theorem read_word_ok {w : List (Option Int)} (h : W60 w) : Ok (m_read_word_a0ef ⟨wordT w⟩) (fun r => r = w) := by
  unfold m_read_word_a0ef
  refine Ok.bind (words_ok (f := wordF) (ws := w.map letT) (by decide) (fun x hx => ?_) ?_) fun t1 h1 => ?_
  · obtain ⟨o, _, e⟩ := List.mem_map.mp hx
    subst e
    exact sgn_free letT_sgn (by decide) (by decide)
  · have := wordT_len h
    unfold wordT at this
    omega
  · subst h1
    refine Ok.bind (mapO_back fun o ho => Ok.bind (P := fun r => r = o) (Ok.ite (fun z => Ok.pure ?_) fun z => ?_) fun t h => Ok.pure h) fun y hy => Ok.pure hy
    · have z := of_decide_eq_true z
      cases o with
      | none => rfl
      | some n => exact absurd z letT_some
    · have z := of_decide_eq_false z
      cases o with
      | none => exact absurd rfl z
      | some n => exact Ok.bind (read_str (h.1 n ho)) fun t6 h6 => Ok.pure (by rw [h6])
/-! ### papers -/
abbrev mendF : Tx := Tx.mk [109, 101, 110, 100]
abbrev leftF : Tx := Tx.mk [108, 101, 102, 116]
def mendT (m : T3 Int Int Int) : Tx := ⟨rowT mendF ([m.a, m.b, m.c].map strX)⟩
def leftT (l : List Int) : Tx := ⟨rowT leftF (l.map strX)⟩
def linesP (paper : T2 (List (T3 Int Int Int)) (List Int)) : List Tx := paper.a.map mendT ++ [leftT paper.b]
def paperT (paper : T2 (List (T3 Int Int Int)) (List Int)) : List Nat := joinN [10] ((linesP paper).map (·.cs))
structure P60 (paper : T2 (List (T3 Int Int Int)) (List Int)) : Prop where
  m : ∀ x ∈ paper.a, N60 x.a ∧ N60 x.b ∧ N60 x.c
  l : ∀ n ∈ paper.b, N60 n
  ml : paper.a.length ≤ 1000
  ll : paper.b.length ≤ 1000
theorem strs_len {ns : List Int} (h : ∀ n ∈ ns, N60 n) : ∀ w ∈ ns.map strX, w.cs.length ≤ 61 := fun w hw => by
  obtain ⟨n, hn, e⟩ := List.mem_map.mp hw
  subst e
  exact strX_len (h n hn)
theorem three60 {x : T3 Int Int Int} (h : N60 x.a ∧ N60 x.b ∧ N60 x.c) : ∀ n ∈ [x.a, x.b, x.c], N60 n := fun n hn => by
  simp only [List.mem_cons, List.not_mem_nil, or_false] at hn
  rcases hn with e | e | e
  · rw [e]; exact h.1
  · rw [e]; exact h.2.1
  · rw [e]; exact h.2.2
theorem mendT_len {x : T3 Int Int Int} (h : N60 x.a ∧ N60 x.b ∧ N60 x.c) : (mendT x).cs.length ≤ 190 := rowT_len (f := mendF) (strs_len (three60 h))
theorem leftT_len {l : List Int} (h : ∀ n ∈ l, N60 n) : (leftT l).cs.length ≤ 4 + l.length * 62 := by
  have := rowT_len (f := leftF) (strs_len h)
  rw [List.length_map] at this
  exact this
theorem row_free {c : Nat} {f : Tx} {ns : List Int} (hf : c ∉ f.cs) (h1 : c ≠ 32) (h2 : c ≠ 45) (h3 : c < 48 ∨ 57 < c) : c ∉ rowT f (ns.map strX) := fun m => by
  rcases rowT_mem m with e | e | ⟨w, hw, e⟩
  · exact h1 e
  · exact hf e
  · obtain ⟨n, _, ew⟩ := List.mem_map.mp hw
    subst ew
    exact str_free h2 h3 e
theorem linesP_len {paper : T2 (List (T3 Int Int Int)) (List Int)} (h : P60 paper) : ((linesP paper).map (·.cs.length)).sum ≤ 252004 := by
  unfold linesP
  rw [List.map_append, List.sum_append, List.map_map]
  have a : ((paper.a.map mendT).map (·.cs.length)).sum ≤ paper.a.length * 190 := by
    have := (joinN_lenB [] 190 (xs := paper.a.map mendT) fun x hx => by
      obtain ⟨m, hm, e⟩ := List.mem_map.mp hx
      subst e
      exact mendT_len (h.m m hm)).2
    rw [List.length_map] at this
    exact this
  rw [List.map_map] at a
  have b := leftT_len h.l
  have := h.ml
  have := h.ll
  show _ + ((leftT paper.b).cs.length + 0) ≤ _
  omega
theorem linesP_many {paper : T2 (List (T3 Int Int Int)) (List Int)} : (linesP paper).length = paper.a.length + 1 := by
  unfold linesP
  simp
theorem paperT_len {paper : T2 (List (T3 Int Int Int)) (List Int)} (h : P60 paper) : (paperT paper).length ≤ 260000 := by
  have k := joinN_len [10] ((linesP paper).map (·.cs))
  rw [List.map_map, List.length_map, linesP_many] at k
  have k : (joinN [10] ((linesP paper).map (·.cs))).length ≤ ((linesP paper).map (·.cs.length)).sum + (paper.a.length + 1) * 1 := k
  have a := linesP_len h
  have := h.ml
  unfold paperT
  omega
theorem strs_ok {ns : List Int} (h : ∀ n ∈ ns, N60 n) : Ok (mapO ns (fun x => (strO x).bind fun t => some t)) (fun r => r = ns.map strX) := Ok.mapE strX fun n hn => Ok.bind (strO_ok (h n hn)) fun t ht => Ok.pure ht
theorem paper_text_ok {paper : T2 (List (T3 Int Int Int)) (List Int)} (h : P60 paper) : Ok (m_paper_text_0009 paper) (fun r => r = ⟨paperT paper⟩) := by
  unfold m_paper_text_0009
  have hml := h.ml
  have hll := h.ll
  refine Ok.bind (Ok.mapE mendT fun x hx => Ok.bind (strs_ok (three60 (h.m x hx))) fun y14 h14 => Ok.bind (cat_ok (by rw [h14]; show 1 + 3 ≤ 1000000; decide)) fun t15 h15 => ?_) fun y17 h17 => Ok.bind (strs_ok h.l) fun y22 h22 => Ok.bind (cat_ok (by rw [h22, List.length_map]; show 1 + _ ≤ _; omega)) fun t23 h23 => ?_
  · subst h15 h14
    exact Ok.bind (join_row (f := mendF) (ws := [x.a, x.b, x.c].map strX) (strs_len (three60 (h.m x hx))) (by show 4 + 3 * 62 ≤ 900000; decide)) fun t16 h16 => Ok.pure h16
  · subst h23 h22 h17
    refine Ok.bind (join_row (f := leftF) (ws := paper.b.map strX) (strs_len h.l) (by show 4 + (paper.b.map strX).length * 62 ≤ 900000; rw [List.length_map]; omega)) fun t24 h24 => ?_
    subst h24
    refine Ok.bind (cat_ok (by rw [List.length_map]; show _ + 1 ≤ _; omega)) fun t25 h25 => ?_
    subst h25
    refine Ok.bind (joinX_ok (xs := linesP paper) (s := ⟨[10]⟩) ?_) fun t26 h26 => Ok.pure h26
    have := linesP_len h
    rw [linesP_many]
    show _ + _ * 1 ≤ _
    omega
theorem read_paper_ok {paper : T2 (List (T3 Int Int Int)) (List Int)} (h : P60 paper) : Ok (m_read_paper_3083 ⟨paperT paper⟩) (fun r => r = paper) := by
  unfold m_read_paper_3083
  have hml := h.ml
  have hll := h.ll
  refine Ok.bind (split_joinL (c := 10) (xs := linesP paper) (by unfold linesP; simp) (fun x hx => ?_) (by have := paperT_len h; unfold paperT at this; omega)) fun t1 h1 => ?_
  · unfold linesP at hx
    rcases List.mem_append.mp hx with m | m
    · obtain ⟨y, _, e⟩ := List.mem_map.mp m
      subst e
      exact row_free (f := mendF) (by decide) (by decide) (by decide) (by decide)
    · rw [List.mem_singleton.mp m]
      exact row_free (f := leftF) (by decide) (by decide) (by decide) (by decide)
  · subst h1
    have ec : cut (linesP paper) none (some (-1)) = paper.a.map mendT := by
      unfold cut
      have l := linesP_many (paper := paper)
      have e1 : sIx (linesP paper).length (linesP paper).length (some (-1)) = paper.a.length := by
        unfold sIx
        dsimp only
        rw [if_pos (by decide), l]
        omega
      have e0 : sIx (linesP paper).length 0 none = 0 := rfl
      rw [e1, e0, Nat.sub_zero, List.drop_zero]
      unfold linesP
      rw [List.take_left' (by rw [List.length_map])]
    rw [ec]
    refine Ok.afterL (fun (xs : List Tx) (u : List (T3 Int Int Int)) => ∃ rest, xs = rest.map mendT ∧ u ++ rest = paper.a) (fun _ => False) ⟨paper.a, rfl, rfl⟩ (fun x xs u ⟨rest, ex, eu⟩ => ?_) (fun r hr => hr.elim) fun u ⟨rest, ex, eu⟩ => ?_
    · cases rest with
      | nil => cases ex
      | cons m rest =>
        rw [List.map_cons] at ex
        obtain ⟨e1, e2⟩ := List.cons.inj ex
        subst e1
        have hm : m ∈ paper.a := by rw [← eu]; simp
        refine Ok.bind (numbers_ok (f := mendF) (ns := [m.a, m.b, m.c]) (by decide) (three60 (h.m m hm)) (by show 4 + 3 * 62 ≤ 900000; decide)) fun t8 h8 => ?_
        subst h8
        refine Ok.ite (fun z => by cases z) fun _ => Ok.bind (P := fun t => t = m.a) ⟨_, rfl, rfl⟩ fun t9 h9 => Ok.bind (P := fun t => t = m.b) ⟨_, rfl, rfl⟩ fun t10 h10 => Ok.bind (P := fun t => t = m.c) ⟨_, rfl, rfl⟩ fun t11 h11 => Ok.bind (app_ok ?_) fun u' hu => Ok.next ⟨rest, e2, ?_⟩
        · have : u.length + (m :: rest).length = paper.a.length := by rw [← List.length_append, eu]
          rw [List.length_cons] at this
          omega
        · rw [hu, h9, h10, h11, List.append_assoc]
          exact eu
    · have : rest = [] := by
        cases rest with
        | nil => rfl
        | cons m rest => cases ex
      subst this
      rw [List.append_nil] at eu
      subst eu
      have last : Ok (ixO (linesP paper) (-(1 : Int))) (fun r => r = leftT paper.b) := by
        unfold ixO ixJ
        have l := linesP_many (paper := paper)
        rw [if_neg (by decide), if_pos (by omega)]
        refine ⟨leftT paper.b, ?_, rfl⟩
        rw [Option.bind_some, show ((-(1 : Int)) + ((linesP paper).length : Int)).toNat = paper.a.length by omega]
        unfold linesP
        rw [List.getElem?_append_right (by rw [List.length_map]; omega), List.length_map, Nat.sub_self]
        rfl
      refine Ok.bind last fun t14 h14 => ?_
      subst h14
      exact Ok.bind (numbers_ok (f := leftF) (by decide) h.l (by show 4 + _ ≤ _; omega)) fun t15 h15 => Ok.pure (by rw [h15])
end DL
end
section
namespace DL
/-! ### the checks of each place -/
def addRow (c : Int) (rows : List (List Int)) (q : T2 Int Int) : List (List Int) := rows.set q.a.toNat ((rows[q.a.toNat]?).getD [] ++ [c])
def seatRows : Int → List (List (T2 Int Int)) → List (List Int) → List (List Int)
  | _, [], rows => rows
  | c, x :: xs, rows => seatRows (c + 1) xs (x.foldl (addRow c) rows)
def seatsF (n : Int) (cs : List (List (T2 Int Int))) : List (List Int) := seatRows 0 cs ((rng 0 n).map fun _ => [])
theorem seatRows_snoc (x : List (T2 Int Int)) : ∀ (xs : List (List (T2 Int Int))) (c : Int) (rows : List (List Int)), seatRows c (xs ++ [x]) rows = x.foldl (addRow (c + xs.length)) (seatRows c xs rows)
  | [], c, rows => by
    show seatRows (c + 1) [] (x.foldl (addRow c) rows) = x.foldl (addRow (c + ((0 : Nat) : Int))) rows
    rw [show c + ((0 : Nat) : Int) = c by omega]
    rfl
  | y :: ys, c, rows => by
    show seatRows (c + 1) (ys ++ [x]) _ = _
    rw [seatRows_snoc x ys (c + 1), show c + 1 + (ys.length : Int) = c + ((y :: ys).length : Int) by rw [List.length_cons]; omega]
    rfl
theorem addRow_le {c : Int} {m : Nat} {rows : List (List Int)} {q : T2 Int Int} (h : ∀ r ∈ rows, r.length ≤ m) : ∀ r ∈ addRow c rows q, r.length ≤ m + 1 := by
  intro r hr
  rcases List.mem_or_eq_of_mem_set hr with e | e
  · have := h r e
    omega
  · rw [e, List.length_append]
    cases e2 : rows[q.a.toNat]? with
    | none => simp
    | some row =>
      have := h row (List.mem_of_getElem? e2)
      simp
      omega
theorem rows_in {c : Int} {n : Nat} {f : T2 Int Int → List (List Int) → Option (List (List Int))} (hf : ∀ q rows, 0 ≤ q.a → q.a < rows.length → (∀ r ∈ rows, r.length < 999999) → Ok (f q rows) (fun r => r = addRow c rows q)) :
    ∀ (x : List (T2 Int Int)) (m : Nat) (rows : List (List Int)), rows.length = n → (∀ q ∈ x, 0 ≤ q.a ∧ q.a < n) → (∀ r ∈ rows, r.length ≤ m) → m + x.length < 999999 → Ok (foldO x rows f) (fun r => r = x.foldl (addRow c) rows ∧ r.length = n ∧ ∀ z ∈ r, z.length ≤ m + x.length)
  | [], m, rows, hl, hx, hm, hb => Ok.pure ⟨rfl, hl, hm⟩
  | q :: qs, m, rows, hl, hx, hm, hb => by
    rw [List.length_cons] at hb
    have h0 := hx q (List.mem_cons_self ..)
    refine Ok.bind (hf q rows h0.1 (by omega) (fun r hr => by have := hm r hr; omega)) fun r hr => ?_
    subst hr
    refine Ok.imp (rows_in hf qs (m + 1) (addRow c rows q) (by unfold addRow; rw [List.length_set]; exact hl) (fun y hy => hx y (List.mem_cons_of_mem _ hy)) (addRow_le hm) (by omega)) fun r hr => ⟨hr.1, hr.2.1, fun z hz => ?_⟩
    have := hr.2.2 z hz
    rw [List.length_cons]
    omega
theorem rows_ok {n : Nat} {cs : List (List (T2 Int Int))} {init : List (List Int)} {f : Int → T2 Int Int → List (List Int) → Option (List (List Int))} (hn : init.length = n) (hi : ∀ r ∈ init, r = []) (hc : cs.length ≤ 400) (hl : ∀ x ∈ cs, x.length ≤ 2000) (hx : ∀ x ∈ cs, ∀ q ∈ x, 0 ≤ q.a ∧ q.a < n)
    (hf : ∀ c q rows, 0 ≤ q.a → q.a < rows.length → (∀ r ∈ rows, r.length < 999999) → Ok (f c q rows) (fun r => r = addRow c rows q)) :
    Ok (foldO (rng 0 (lenI cs)) init (fun x8 u7 => (ixO cs x8).bind fun t10 => (foldO t10 u7 (f x8)).bind fun u15 => some u15)) (fun r => r = seatRows 0 cs init ∧ r.length = n ∧ ∀ z ∈ r, z.length < 999000) := by
  refine Ok.imp (Ok.foldR (fun k (rows : List (List Int)) => rows = seatRows 0 (cs.take k.toNat) init ∧ rows.length = n ∧ ∀ z ∈ rows, z.length ≤ 2000 * k.toNat) (by unfold lenI; omega) ⟨by simp [seatRows], hn, fun z hz => by rw [hi z hz]; simp⟩ fun k rows k0 k1 ⟨h1, h2, h3⟩ => ?_) fun r hr => ?_
  · unfold lenI at k1
    have kl : k.toNat < cs.length := by omega
    refine Ok.bind (Ok.ix k0 k1) fun x hxk => ?_
    have xl := hl x hxk.1
    refine Ok.bind (rows_in (hf k) x (2000 * k.toNat) rows h2 (hx x hxk.1) h3 (by omega)) fun r hr => Ok.pure ⟨?_, hr.2.1, fun z hz => ?_⟩
    · rw [hr.1, h1, show (k + 1).toNat = k.toNat + 1 by omega, List.take_add_one, hxk.2]
      show _ = seatRows 0 (List.take k.toNat cs ++ [x]) init
      rw [seatRows_snoc, List.length_take, Nat.min_eq_left (by omega), show 0 + ((k.toNat : Nat) : Int) = k by omega]
    · have := hr.2.2 z hz
      omega
  · obtain ⟨h1, h2, h3⟩ := hr
    refine ⟨?_, h2, fun z hz => ?_⟩
    · rw [h1]
      unfold lenI
      rw [Int.toNat_natCast, List.take_length]
    · have := h3 z hz
      unfold lenI at this
      rw [Int.toNat_natCast] at this
      omega
theorem ixJ_at {n : Nat} {i : Int} (h0 : 0 ≤ i) (h1 : i < n) : ixJ n i = some i.toNat := by
  unfold ixJ
  rw [if_pos h0, if_pos h1]
theorem appNO_at {rows : List (List Int)} {i x : Int} (h0 : 0 ≤ i) (h1 : i < rows.length) (hb : ∀ r ∈ rows, r.length < 1000000) : Ok (appNO rows i x) (fun r => r = rows.set i.toNat ((rows[i.toNat]?).getD [] ++ [x])) := by
  unfold appNO
  have hj : i.toNat < rows.length := by omega
  rw [ixJ_at h0 h1, Option.bind_some, List.getElem?_eq_getElem hj, Option.bind_some]
  rw [show appO rows[i.toNat] x = some (rows[i.toNat] ++ [x]) from if_pos (hb _ (List.getElem_mem hj))]
  exact ⟨_, rfl, rfl⟩
theorem seats_ok {net : T3 Int Int (List (List (T2 Int Int)))} (hb : 0 ≤ net.b ∧ net.b ≤ 1000) (hc : net.c.length ≤ 400) (hl : ∀ x ∈ net.c, x.length ≤ 2000) (hx : ∀ x ∈ net.c, ∀ q ∈ x, 0 ≤ q.a ∧ q.a < net.b) : Ok (m_seats_cb41 net) (fun r => r = seatsF net.b net.c ∧ (r.length : Int) = net.b ∧ ∀ z ∈ r, z.length < 999000) := by
  unfold m_seats_cb41
  refine Ok.bind (Ok.rng (by decide) (by decide) (by omega) (by omega) (by omega)) fun t ht => ?_
  subst ht
  refine Ok.bind (Ok.mapE (fun _ => ([] : List Int)) fun x _ => Ok.pure rfl) fun y hy => ?_
  subst hy
  refine Ok.bind (Ok.rng (by decide) (by decide) (by unfold lenI; omega) (by unfold lenI; omega) (by unfold lenI; omega)) fun t ht => ?_
  subst ht
  have ln : ((rng 0 net.b).map fun _ => ([] : List Int)).length = net.b.toNat := by rw [List.length_map, rng_length]; omega
  refine Ok.bind (rows_ok (n := net.b.toNat) ln (fun r hr => by obtain ⟨_, _, e⟩ := List.mem_map.mp hr; exact e.symm) hc hl (fun x hx' q hq => by have := hx x hx' q hq; omega) (f := fun c q rows => (appNO rows q.a c).bind fun nest14 => some nest14) fun c q rows h0 h1 h2 => ?_) fun r hr => Ok.pure ⟨hr.1, by rw [hr.2.1]; omega, hr.2.2⟩
  exact Ok.bind (appNO_at h0 h1 (fun r hr => by have := h2 r hr; omega)) fun r hr => Ok.pure hr
theorem set_ok {α : Type} {xs : List α} {i : Int} {x : α} (h0 : 0 ≤ i) (h1 : i < xs.length) : Ok (setO xs i x) (fun r => r = xs.set i.toNat x) := by
  unfold setO
  rw [ixJ_at h0 h1]
  exact ⟨_, rfl, rfl⟩
end DL
end
section
namespace DL
/-! ### the second way to draw -/
theorem draw2_ok {n : Int} (h0 : 0 < n) (h1 : n.natAbs < 2 ^ 1000) : Tr (fun b => m_Ldraw_b9cb b n) (fun k => 0 ≤ k ∧ k < n) := Tr.mk fun b hb => by
  show Ok (m_Ldraw_b9cb b n) _
  unfold m_Ldraw_b9cb
  have fin : ∀ b2 : Bag, WB b2 → Ok ((modO b2.d n).bind fun t4 => (divO b2.d n).bind fun t5 => (some { b2 with d := t5 }).bind fun bag6 => some (t4, bag6)) (fun r => WB r.2 ∧ 0 ≤ r.1 ∧ r.1 < n) := fun b2 hb2 => by
    refine Ok.bind (Ok.mod h0) fun t ht => Ok.bind (Ok.div 1000 h0 h1) fun u hu => Ok.let (Ok.pure ⟨?_, ht.2⟩)
    exact ⟨hb2.cells, hb2.i0, hb2.i1, by rw [hu]; exact Int.ediv_nonneg hb2.d0 (by omega), hb2.s0, hb2.s1⟩
  refine Ok.ite (fun hc => ?_) (fun hc => Ok.ite (fun hc2 => ?_) fun hc2 => fin b hb)
  · rw [Bool.and_eq_true, decide_eq_true_eq, decide_eq_true_eq] at hc
    refine Ok.bind (Ok.ix hb.i0 hc.2) fun t ht => Ok.let (Ok.let ?_)
    have ht2 := hb.cells t ht.1
    exact fin _ ⟨hb.cells, Int.le_trans hb.i0 (Int.le_add_of_nonneg_right (by decide)), (show b.i + 1 ≤ (b.cells.length : Int) from hc.2), ht2.1, hb.s0, hb.s1⟩
  · have hs0 := hb.s0
    have hs1 := hb.s1
    refine Ok.let (Ok.bind (Ok.pow (by decide) (by decide) (by show b.s.natAbs < 2 ^ 64; omega)) fun t8 h8 => Ok.bind (Ok.mulS (smallI_of (by decide) (by decide))) fun t9 h9 => Ok.bind (Ok.mulS (smallI_of (by decide) (by decide))) fun t10 h10 => Ok.bind (Ok.mod (by decide)) fun t11 h11 => Ok.let (Ok.bind (Ok.div 10 (by decide) (by decide)) fun t13 h13 => Ok.bind (Ok.mod h0) fun t14 h14 => Ok.pure ⟨⟨hb.cells, hb.i0, hb.i1, hb.d0, h11.2.1, h11.2.2⟩, h14.2⟩))
theorem drawT {n : Int} (h0 : 0 < n) (h1 : n ≤ 10 ^ 60) {b : Bag} (hb : WB b) : Ok (m_Ldraw_b9cb b n) (fun r => WB r.2 ∧ 0 ≤ r.1 ∧ r.1 < n) := (draw2_ok h0 (small60 (by omega) h1)).ok hb
theorem PI.le {p : Int} (h : PI p) : p ≤ 10 ^ 60 := by have := h.2.2; omega
theorem prime_list2 (x : Int) (hm : x ∈ [(2 : Int), (3 : Int), (5 : Int), (7 : Int), (2 : Int), (11 : Int), (101 : Int), (10007 : Int), (65537 : Int), (1000003 : Int), (998244353 : Int), (1000000007 : Int), (2147483647 : Int), (1000000000039 : Int)] ++ [(1000000000000000000000000000000000000003 : Int), (9999999999999999999999999999999999999983 : Int), (2305843009213693951 : Int), (618970019642690137449562111 : Int)] ++ [(162259276829213363391578010288127 : Int), (170141183460469231731687303715884105727 : Int)]) : PI x := by
  simp only [List.cons_append, List.nil_append, List.append_assoc, List.mem_cons, List.not_mem_nil, or_false] at hm
  rcases hm with h | h | h | h | h | h | h | h | h | h | h | h | h | h | h | h | h | h | h | h <;> subst h <;> exact ⟨by decide, by first | exact pr_2 | exact pr_3 | exact pr_5 | exact pr_7 | exact pr_11 | exact pr_101 | exact pr_10007 | exact pr_65537 | exact pr_1000003 | exact pr_998244353 | exact pr_1000000007 | exact pr_2147483647 | exact pr_1000000000039 | exact pr_2305843009213693951 | exact pr_618970019642690137449562111 | exact pr_162259276829213363391578010288127 | exact pr_170141183460469231731687303715884105727 | exact pr_1000000000000000000000000000000000000003 | exact pr_9999999999999999999999999999999999999983, by decide⟩
theorem prime2_ok : Tr m_Lprime_4683 PI := Tr.mk fun b hb => by
  unfold m_Lprime_4683
  refine Ok.let (Ok.bind (Ok.pow (by decide) (by decide) (by decide)) fun t2 h2 => Ok.bind (Ok.pow (by decide) (by decide) (by decide)) fun t3 h3 => ?_)
  have e2 : t2 + 3 = 1000000000000000000000000000000000000003 := by rw [h2]; rfl
  have e3 : t3 - 17 = 9999999999999999999999999999999999999983 := by rw [h3]; rfl
  rw [e2, e3]
  refine Ok.bind (cat_ok (by decide)) fun t ht => ?_
  subst ht
  refine Ok.bind (cat_ok (by decide)) fun t ht => ?_
  subst ht
  refine Ok.bind ((draw2_ok (by decide) (by decide)).ok hb) fun r hr => ?_
  refine Ok.bind (P := fun q : Int × Bag => WB q.2 ∧ PI q.1) (Ok.ite (fun hc => ?_) fun hc => ?_) fun q hq => Ok.pure hq
  · rw [decide_eq_true_eq] at hc
    refine Ok.bind (Ok.ix hr.2.1 (by simpa using hc)) fun t ht => Ok.pure ⟨hr.1, ?_⟩
    exact prime_list2 t ht.1
  · refine Ok.bind ((draw2_ok (by decide) (by decide)).ok hr.1) fun q hq => ?_
    exact Ok.bind (prime_from_ok (by omega) (by omega)) fun t ht => Ok.pure ⟨hq.1, ht⟩
theorem letter2_ok {p : Int} (hp : 0 < p) (h1 : p ≤ 10 ^ 60) : Tr (fun b => m_Lletter_be3e b p) (fun l => 0 ≤ l ∧ l < p) := Tr.mk fun b hb => by
  show Ok (m_Lletter_be3e b p) _
  unfold m_Lletter_be3e
  refine Ok.bind (drawT hp h1 hb) fun r hr => Ok.bind (Ok.div 10 (by decide) (by decide)) fun t2 h2 => ?_
  have h2 : t2 = p / 3 := h2
  refine Ok.bind (Ok.mul 10000 10000 (small60' (by omega) (by omega)) (small60' (by omega) (by omega))) fun t3 h3 => Ok.bind (Ok.mod hp) fun t4 h4 => Ok.pure ⟨hr.1, h4.2⟩
theorem factor2_ok {p : Int} (hp : PI p) : Tr (fun b => m_Lfactor_5038 b p) (fun l => 1 ≤ l ∧ l < p) := Tr.mk fun b hb => by
  show Ok (m_Lfactor_5038 b p) _
  have h2 := hp.ge
  have hle := hp.le
  unfold m_Lfactor_5038
  refine Ok.bind (drawT (n := p - 1) (by omega) (by omega) hb) fun r hr => Ok.bind (Ok.div 10 (by decide) (by decide)) fun t2 h2 => ?_
  have h2 : t2 = p / 3 := h2
  refine Ok.bind (Ok.mul 10000 10000 (small60' (by omega) (by omega)) (small60' (by omega) (by omega))) fun t3 h3 => Ok.bind (Ok.mod hp.1) fun t4 h4 => Ok.pure ⟨hr.1, ?_, h4.2.2⟩
  show 1 ≤ t4
  have hne : t4 ≠ 0 := fun z => by
    have hd : p ∣ (1 + r.1) * (t2 + 1) := Int.dvd_of_emod_eq_zero (by rw [← h3, ← h4.1, z])
    have hd2 := hp.dvd_of_mul (f := 1 + r.1) (by rw [Int.emod_eq_of_lt (by omega) (by omega)]; omega) hd
    have := Int.le_of_dvd (by omega) hd2
    omega
  omega
theorem min3 {p : Int} (hp : 2 ≤ p) : 0 < minI p 3 ∧ minI p 3 ≤ p ∧ minI p 3 ≤ 3 := by
  unfold minI
  split <;> omega
theorem letters2_ok {p n : Int} (hp : 2 ≤ p) (hp1 : p ≤ 10 ^ 60) (hn : 0 ≤ n) (hn1 : n ≤ 100000) : Tr (fun b => m_Lletters_a01e b p n) (fun r => (r.length : Int) = n ∧ ∀ l ∈ r, 0 ≤ l ∧ l < p) := Tr.mk fun b hb => by
  show Ok (m_Lletters_a01e b p n) _
  have h3 := min3 hp
  unfold m_Lletters_a01e
  have key : ∀ {f : Int → Bag → Option (Int × Bag)}, (∀ x, Tr (f x) (fun y => 0 ≤ y ∧ y < p)) → ∀ {b : Bag}, WB b → Ok ((rngO 0 n).bind fun t2 => (mapS t2 b f).bind fun y8 => some (y8.1, y8.2)) (fun r => WB r.2 ∧ (r.1.length : Int) = n ∧ ∀ l ∈ r.1, 0 ≤ l ∧ l < p) := fun {f} hf {b} hb => by
    refine Ok.bind (Ok.rng (by decide) (by decide) (by omega) (by omega) (by omega)) fun t ht => ?_
    subst ht
    refine Ok.bind (Ok.mapB (fun (x y : Int) => 0 ≤ y ∧ y < p) (fun x hx => hf x) hb) fun r hr => Ok.pure ⟨hr.1, ?_, fun l hl => ?_⟩
    · show (r.1.length : Int) = n
      rw [hr.2.length, rng_length]
      omega
    · obtain ⟨_, _, h⟩ := hr.2.mem l hl
      exact h
  refine Ok.bind (drawT (by decide) (by decide) hb) fun r hr => Ok.ite (fun _ => ?_) fun _ => Ok.ite (fun _ => ?_) fun _ => ?_
  · refine key (fun x => Tr.mk fun b hb => ?_) hr.1
    refine Ok.bind ((letter2_ok (by omega) hp1).ok hb) fun r5 h5 => Ok.bind (drawT (by decide) (by decide) h5.1) fun r6 h6 => Ok.bind (Ok.mulR (smallI_of (by unfold b2i; split <;> decide) (by unfold b2i; split <;> decide))) fun t7 h7 => Ok.pure ⟨h6.1, ?_⟩
    have h5 := h5.2
    show 0 ≤ t7 ∧ t7 < p
    rw [h7]
    unfold b2i
    split <;> omega
  · refine key (fun x => Tr.mk fun b hb => ?_) hr.1
    exact Ok.bind (drawT h3.1 (by omega) hb) fun r5 h5 => Ok.pure ⟨h5.1, by show 0 ≤ r5.1 ∧ r5.1 < p; omega⟩
  · refine key (fun x => Tr.mk fun b hb => ?_) hr.1
    exact Ok.bind ((letter2_ok (by omega) hp1).ok hb) fun r5 h5 => Ok.pure h5
/-- places that are drawn, rising -/
structure PLS (n : Int) (r : List Int) : Prop where
  ne : 0 < r.length
  len : r.length ≤ 4000
  pl : ∀ x ∈ r, 0 ≤ x ∧ x < n
  pw : r.Pairwise (· < ·)
theorem rng_pw (a b : Int) : (rng a b).Pairwise (· < ·) := by
  unfold rng
  rw [List.pairwise_map]
  exact List.Pairwise.imp (fun {i j} h => by omega) List.pairwise_lt_range
theorem places2_ok {n wide : Int} (hn : 1 ≤ n) (hn1 : n ≤ 4000) (hw : 1 ≤ wide) (hw1 : wide ≤ 4000) : Tr (fun b => m_Lplaces_285e b n wide) (PLS n) := Tr.mk fun b hb => by
  show Ok (m_Lplaces_285e b n wide) _
  unfold m_Lplaces_285e
  refine Ok.bind (P := fun q : Bool × Bag => WB q.2) (Ok.ite (fun _ => Ok.bind (drawT (by decide) (by decide) hb) fun r hr => Ok.pure hr.1) fun _ => Ok.pure hb) fun t2 h2 => Ok.ite (fun _ => ?_) fun _ => ?_
  · refine Ok.bind (Ok.rng (by decide) (by decide) (by omega) (by omega) (by omega)) fun t ht => Ok.pure ⟨h2, ?_⟩
    subst ht
    exact ⟨by show 0 < (rng 0 n).length; rw [rng_length]; omega, by show (rng 0 n).length ≤ 4000; rw [rng_length]; omega, fun x hx => mem_rng.mp hx, rng_pw 0 n⟩
  · refine Ok.bind (drawT (n := wide) (by omega) (by omega) h2) fun r4 h4 => ?_
    refine Ok.bind (Ok.rng (by decide) (by decide) (by omega) (by omega) (by omega)) fun t ht => ?_
    subst ht
    refine Ok.bind (Ok.mapB (fun (x y : Int) => 0 ≤ y ∧ y < n) (fun x hx => Tr.mk fun b hb => Ok.bind (drawT (n := n) (by omega) (by omega) hb) fun r5 h5 => Ok.pure h5) h4.1) fun th hth => ?_
    have thl := hth.2.length
    rw [rng_length] at thl
    refine Ok.bind (sset_ok (by omega)) fun r hr => Ok.pure ⟨hth.1, ?_⟩
    subst hr
    have sl := sset_len th.1
    exact ⟨sset_pos (by omega), by show (sset th.1).length ≤ 4000; omega, fun x hx => by
      obtain ⟨_, _, h⟩ := hth.2.mem x (sset_mem.mp hx)
      exact h, sset_pw _⟩
theorem pairs2_ok {p n : Int} {pl : List Int} {f : Int → Bag → Option (T2 Int Int × Bag)} (hpl : PLS n pl) (hf : ∀ x, Tr (f x) (fun q => q.a = x ∧ 1 ≤ q.b ∧ q.b < p)) {b : Bag} (hb : WB b) : Ok (mapS pl b f) (fun r => WB r.2 ∧ CHK p n r.1 ∧ r.1.length ≤ 4000) := by
  refine Ok.imp (Ok.mapB (fun (x : Int) (q : T2 Int Int) => q.a = x ∧ 1 ≤ q.b ∧ q.b < p) (fun x hx => hf x) hb) fun r hr => ⟨hr.1, ⟨fun e => ?_, fun q hq => ?_, hr.2.pw (fun x y h => h.1) hpl.pw⟩, by rw [hr.2.length]; exact hpl.len⟩
  · have := hr.2.length
    rw [e] at this
    have := hpl.ne
    simp at *
    omega
  · obtain ⟨x, hx, h⟩ := hr.2.mem q hq
    have := hpl.pl x hx
    omega
theorem CHK.pok {p n : Int} {r : List (T2 Int Int)} {word : List (Option Int)} (h : CHK p n r) (w : WI p n word) (hp : p ≤ 10 ^ 60) : POk r word := PG'.pok (fun q hq => by have := h.2.1 q hq; omega) w hp
theorem lossy2_ok (word : List Int) : Tr (fun b => m_Llossy_9ae4 b word) (fun w => w.length = word.length ∧ ∀ l, some l ∈ w → l ∈ word) := Tr.mk fun b hb => by
  show Ok (m_Llossy_9ae4 b word) _
  unfold m_Llossy_9ae4
  refine Ok.bind (drawT (by decide) (by decide) hb) fun r hr => ?_
  refine Ok.bind (Ok.ix hr.2.1 (by show r.1 < 8; omega)) fun t ht => ?_
  have t0 : 0 < t ∧ t < 9 := by
    have := ht.1
    simp only [List.mem_cons, List.not_mem_nil, or_false] at this
    omega
  refine Ok.bind (Ok.mapB (fun (x : Int) (y : Option Int) => y = none ∨ y = some x) (fun x hx => Tr.mk fun b hb => ?_) hr.1) fun y hy => Ok.pure ⟨hy.1, hy.2.length, fun l hl => ?_⟩
  · refine Ok.bind (drawT (n := t) t0.1 (by omega) hb) fun q hq => ?_
    refine Ok.bind (P := fun o : Option Int => o = none ∨ o = some x) (Ok.ite (fun _ => Ok.pure (.inl rfl)) fun _ => Ok.pure (.inr rfl)) fun o ho => Ok.pure ⟨hq.1, ho⟩
  · obtain ⟨x, hx, h⟩ := hy.2.mem _ hl
    rcases h with h | h
    · cases h
    · cases h
      exact hx
/-! ### what a check tells -/
def lostIn (word : List (Option Int)) (q : T2 Int Int) : Bool := match word[q.a.toNat]? with
  | some none => true
  | _ => false
/-- what a check tells of a word: its one lost place, and the letter there -/
def ToldR (p : Int) (pairs : List (T2 Int Int)) (word : List (Option Int)) (o : Option (T2 Int Int)) : Prop :=
  (o = none ∧ (pairs.filter (lostIn word)).length ≠ 1) ∨ ∃ q x, pairs.filter (lostIn word) = [q] ∧ o = some ⟨q.a, x⟩ ∧ 0 ≤ x ∧ x < p ∧ p ∣ q.b * x + tot word pairs
theorem lost_ok {pairs : List (T2 Int Int)} {word : List (Option Int)} (h : ∀ q ∈ pairs, 0 ≤ q.a ∧ q.a < word.length) {β : Type} (g : T2 Int Int → β) : Ok (filO pairs (fun x2 => ((ixO word x2.a).bind fun t4 => (if t4.isNone = true then some (some (g x2)) else some ((none : Option β)))))) (fun r => r = (pairs.filter (lostIn word)).map g) := by
  induction pairs with
  | nil => exact ⟨[], rfl, rfl⟩
  | cons q qs ih =>
    obtain ⟨r, h1, h2⟩ := ih fun x hx => h x (List.mem_cons_of_mem _ hx)
    have hq := h q (List.mem_cons_self ..)
    obtain ⟨o, e, _, e2⟩ := ixO_nat (xs := word) hq.1 hq.2
    unfold filO
    show Ok (Option.bind ((ixO word q.a).bind fun t4 => if t4.isNone = true then some (some (g q)) else some none) _) _
    rw [e, Option.bind_some, h1, List.filter_cons]
    have el : lostIn word q = o.isNone := by
      unfold lostIn
      rw [e2]
      cases o <;> rfl
    rw [el, h2]
    cases o <;> exact ⟨_, rfl, rfl⟩
theorem told_by_ok {net : T3 Int Int (List (List (T2 Int Int)))} {word : List (Option Int)} {c : Int} {pairs : List (T2 Int Int)} (hp : PI net.a) (w : WI net.a net.b word) (hc : 0 ≤ c) (he : net.c[c.toNat]? = some pairs) (hk : CHK net.a net.b pairs) : Ok (m_told_by_4c9c net word c) (ToldR net.a pairs word) := by
  unfold m_told_by_4c9c
  have hcl : c.toNat < net.c.length := by
    by_cases z : c.toNat < net.c.length
    · exact z
    · rw [List.getElem?_eq_none (by omega)] at he
      cases he
  refine Ok.bind (Ok.ix hc (by omega)) fun t ht => ?_
  have et : t = pairs := Option.some.inj (ht.2.symm.trans he)
  subst et
  have pok := hk.pok w hp.le
  refine Ok.bind (lost_ok pok.pl (fun q => q)) fun y hy => ?_
  rw [List.map_id'] at hy
  refine Ok.ite (fun e => ?_) fun e => ?_
  · rw [Bool.not_eq_true', decide_eq_false_iff_not] at e
    refine Ok.pure (.inl ⟨rfl, fun z => e ?_⟩)
    rw [hy]
    unfold lenI
    rw [z]
    rfl
  · rw [Bool.not_eq_false', decide_eq_true_eq] at e
    have yl : y.length = 1 := by unfold lenI at e; omega
    match y, yl, hy with
    | [q], _, hy =>
      have qm : q ∈ t.filter (lostIn word) := by rw [← hy]; exact List.mem_singleton.mpr rfl
      have qt := (List.mem_filter.mp qm).1
      have qb := hk.2.1 q qt
      refine Ok.let (k := fun t6 : T2 Int Int => (m_total_f531 net.a t word).bind fun t7 => (m_over_1441 net.a ((0 : Int) - t7) t6.b).bind fun t8 => some (some (T2.mk t6.a t8))) ?_
      refine Ok.bind (total_ok hp.1 pok) fun t7 h7 => ?_
      have hlt := hp.lt
      refine Ok.bind (over_ok (by have := hp.ge; omega) (Nat.lt_of_lt_of_le hlt (pow_mono (by decide))) (hp.gcd (by rw [Int.emod_eq_of_lt (by omega) (by omega)]; omega)) (a := 0 - t7) (by
        rw [h7]
        have h1 := Int.emod_nonneg (tot word t) (show net.a ≠ 0 by have := hp.1; omega)
        have h2 := Int.emod_lt_of_pos (tot word t) hp.1
        have k1 : (2 : Nat) ^ 134 ≤ 2 ^ 10000 := pow_mono (by decide)
        omega)) fun x hx => Ok.pure (.inr ⟨q, x, hy.symm, rfl, hx.1, hx.2.1, ?_⟩)
      have h5 := hx.2.2
      rw [h7] at h5
      have e : q.b * x + tot word t = (q.b * x - (0 - tot word t % net.a)) + (tot word t - tot word t % net.a) := by omega
      rw [e]
      exact Int.dvd_add h5 Int.dvd_self_sub_emod
end DL
end
section
namespace DL
theorem prime3_ok : Tr m_Lprime_288d PI := Tr.mk fun b hb => by
  unfold m_Lprime_288d
  refine Ok.let (Ok.bind (Ok.pow (by decide) (by decide) (by decide)) fun t2 h2 => Ok.bind (Ok.pow (by decide) (by decide) (by decide)) fun t3 h3 => ?_)
  have e2 : t2 + 3 = 1000000000000000000000000000000000000003 := by rw [h2]; rfl
  have e3 : t3 - 17 = 9999999999999999999999999999999999999983 := by rw [h3]; rfl
  rw [e2, e3]
  refine Ok.bind (cat_ok (by decide)) fun t ht => ?_
  subst ht
  refine Ok.bind (cat_ok (by decide)) fun t ht => ?_
  subst ht
  refine Ok.bind (drawS (by decide) (by decide) hb) fun r hr => ?_
  refine Ok.bind (P := fun q : Int × Bag => WB q.2 ∧ PI q.1) (Ok.ite (fun hc => ?_) fun hc => ?_) fun q hq => Ok.pure hq
  · rw [decide_eq_true_eq] at hc
    refine Ok.bind (Ok.ix hr.2.1 (by simpa using hc)) fun t ht => Ok.pure ⟨hr.1, ?_⟩
    exact prime_list2 t ht.1
  · refine Ok.bind (drawS (by decide) (by decide) hr.1) fun q hq => ?_
    exact Ok.bind (prime_from_ok (by omega) (by omega)) fun t ht => Ok.pure ⟨hq.1, ht⟩
end DL
end
section
namespace DL
/-! ### nets as texts -/
theorem catL {x y : Tx} (h : x.cs.length + y.cs.length ≤ 1000000) : Ok (catX x y) (fun r => r = ⟨x.cs ++ y.cs⟩ ∧ r.cs.length = x.cs.length + y.cs.length) := .of (if_pos h) ⟨rfl, List.length_append⟩
theorem numberN_ok : Tr m_Lnumber_99ec (fun n => N60 n) := Tr.mk fun b hb => by
  unfold m_Lnumber_99ec
  refine Ok.bind (drawS (by decide) (by decide) hb) fun r1 h1 => Ok.ite (fun _ => Ok.bind (drawS (by decide) (by decide) h1.1) fun r2 h2 => Ok.pure ⟨h2.1, ?_⟩) fun z => ?_
  · have := h2.2
    exact N60.of (by show _ < r2.1 - 4; omega) (by show r2.1 - 4 < _; omega)
  · have z := of_decide_eq_false z
    refine Ok.bind (drawS (by decide) (by decide) h1.1) fun r3 h3 => Ok.bind (ix2 (x := (1 : Int)) (y := -1) h3.2) fun t4 h4 => Ok.bind (Ok.pow (by decide) (by decide) (by decide)) fun t5 h5 => Ok.bind (ix2 (x := t5) (y := (1000 : Int)) (by have := h1.2; omega)) fun t6 h6 => ?_
    have e5 : t5 = 10 ^ 60 := h5
    have r6 : 0 < t6 ∧ t6 ≤ 10 ^ 60 := by
      rcases h6 with e | e
      · rw [e, e5]; exact ⟨by decide, Int.le_refl _⟩
      · rw [e]; exact ⟨by decide, by decide⟩
    refine Ok.bind (drawS r6.1 r6.2 h3.1) fun r7 h7 => Ok.bind (Ok.mulS (by unfold smallI; omega)) fun t8 h8 => Ok.pure ⟨h7.1, ?_⟩
    have := h7.2
    show N60 t8
    rw [h8]
    rcases h4 with e | e
    · rw [e, Int.one_mul]; exact N60.of (by omega) (by omega)
    · rw [e]; exact N60.of (by omega) (by omega)
theorem PI.nn60 {p x : Int} (h : PI p) (x0 : 0 ≤ x) (x1 : x ≤ p) : N60 x := by
  have := h.2.2
  have : (2 : Int) ^ 134 < 10 ^ 60 := by decide
  exact N60.of (by omega) (by omega)
abbrev netF : Tx := Tx.mk [110, 101, 116]
abbrev checkF : Tx := Tx.mk [99, 104, 101, 99, 107]
def pairT (q : T2 Int Int) : Tx := ⟨joinN [58] [(strX q.a).cs, (strX q.b).cs]⟩
def lineT (x : List (T2 Int Int)) : Tx := ⟨rowT checkF (x.map pairT)⟩
def headT (p n : Int) : Tx := ⟨rowT netF ([p, n].map strX)⟩
def linesN (net : T3 Int Int (List (List (T2 Int Int)))) : List Tx := headT net.a net.b :: net.c.map lineT
def netT (net : T3 Int Int (List (List (T2 Int Int)))) : List Nat := joinN [10] ((linesN net).map (·.cs))
structure NB (net : T3 Int Int (List (List (T2 Int Int)))) : Prop where
  a : N60 net.a
  b : N60 net.b
  q : ∀ x ∈ net.c, ∀ q ∈ x, N60 q.a ∧ N60 q.b
  cl : net.c.length ≤ 400
  pl : (net.c.map List.length).sum ≤ 2000
theorem pair_cs (q : T2 Int Int) : (pairT q).cs = (strX q.a).cs ++ ([58] ++ (strX q.b).cs) := rfl
theorem pairT_len {q : T2 Int Int} (h : N60 q.a ∧ N60 q.b) : (pairT q).cs.length ≤ 123 := by
  have a := strX_len h.1
  have b := strX_len h.2
  rw [pair_cs, List.length_append, List.length_append]
  show _ + (1 + _) ≤ _
  omega
theorem pairs_len {x : List (T2 Int Int)} (h : ∀ q ∈ x, N60 q.a ∧ N60 q.b) : ∀ w ∈ x.map pairT, w.cs.length ≤ 123 := fun w hw => by
  obtain ⟨q, hq, e⟩ := List.mem_map.mp hw
  subst e
  exact pairT_len (h q hq)
theorem lineT_len {x : List (T2 Int Int)} (h : ∀ q ∈ x, N60 q.a ∧ N60 q.b) : (lineT x).cs.length ≤ 5 + x.length * 124 := by
  have := rowT_len (f := checkF) (pairs_len h)
  rw [List.length_map] at this
  exact this
theorem two60 {p n : Int} (a : N60 p) (b : N60 n) : ∀ k ∈ [p, n], N60 k := fun k hk => by
  simp only [List.mem_cons, List.not_mem_nil, or_false] at hk
  rcases hk with e | e
  · rw [e]; exact a
  · rw [e]; exact b
theorem strsN_len {ns : List Int} (h : ∀ n ∈ ns, N60 n) : ∀ w ∈ ns.map strX, w.cs.length ≤ 61 := fun w hw => by
  obtain ⟨n, hn, e⟩ := List.mem_map.mp hw
  subst e
  exact strX_len (h n hn)
theorem headT_len {p n : Int} (a : N60 p) (b : N60 n) : (headT p n).cs.length ≤ 127 := rowT_len (f := netF) (strsN_len (two60 a b))
/-- the lines of some checks -/
theorem lines_sum {cs : List (List (T2 Int Int))} (h : ∀ x ∈ cs, ∀ q ∈ x, N60 q.a ∧ N60 q.b) : ((cs.map lineT).map (·.cs.length)).sum ≤ cs.length * 5 + (cs.map List.length).sum * 124 := by
  induction cs with
  | nil => exact Nat.zero_le _
  | cons x cs ih =>
    have := lineT_len (h x (List.mem_cons_self ..))
    have := ih fun y hy => h y (List.mem_cons_of_mem _ hy)
    rw [List.map_cons, List.map_cons, List.sum_cons, List.length_cons, List.map_cons, List.sum_cons]
    omega
theorem linesN_sum {net : T3 Int Int (List (List (T2 Int Int)))} (h : NB net) : ((linesN net).map (·.cs.length)).sum ≤ 250127 := by
  unfold linesN
  rw [List.map_cons, List.sum_cons]
  have := headT_len h.a h.b
  have := lines_sum h.q
  have := h.cl
  have := h.pl
  omega
theorem linesN_many {net : T3 Int Int (List (List (T2 Int Int)))} : (linesN net).length = net.c.length + 1 := by
  unfold linesN
  rw [List.length_cons, List.length_map]
theorem netT_len {net : T3 Int Int (List (List (T2 Int Int)))} (h : NB net) : (netT net).length ≤ 260000 := by
  have k := joinN_len [10] ((linesN net).map (·.cs))
  rw [List.map_map, List.length_map, linesN_many] at k
  have k : (joinN [10] ((linesN net).map (·.cs))).length ≤ ((linesN net).map (·.cs.length)).sum + (net.c.length + 1) * 1 := k
  have a := linesN_sum h
  have := h.cl
  unfold netT
  omega
theorem pair_free {q : T2 Int Int} {c : Nat} (h0 : c ≠ 58) (h : c ≠ 45) (k : c < 48 ∨ 57 < c) : c ∉ (pairT q).cs := fun m => by
  rw [pair_cs] at m
  rcases List.mem_append.mp m with m | m
  · exact str_free h k m
  · rcases List.mem_append.mp m with m | m
    · exact h0 (List.mem_singleton.mp m)
    · exact str_free h k m
theorem line_free {x : List (T2 Int Int)} : 10 ∉ (lineT x).cs := fun m => by
  rcases rowT_mem m with e | e | ⟨w, hw, e⟩
  · cases e
  · exact absurd e (by decide)
  · obtain ⟨q, _, ew⟩ := List.mem_map.mp hw
    subst ew
    exact pair_free (by decide) (by decide) (by decide) e
theorem head_free {p n : Int} : 10 ∉ (headT p n).cs := fun m => by
  rcases rowT_mem m with e | e | ⟨w, hw, e⟩
  · cases e
  · exact absurd e (by decide)
  · obtain ⟨q, _, ew⟩ := List.mem_map.mp hw
    subst ew
    exact str_free (by decide) (by decide) e
theorem head_cs (p n : Int) : (headT p n).cs = [110, 101, 116, 32] ++ (strX p).cs ++ [32] ++ (strX n).cs := by
  show joinN [32] [netF.cs, (strX p).cs, (strX n).cs] = _
  simp [joinN]
/-- the head of a net's text -/
theorem head_ok92 {p n : Int} (a : N60 p) (b : N60 n) {Q : Tx → Prop} {k : Tx → Option Tx} (h : Ok (k (headT p n)) Q) : Ok ((strO p).bind fun t1 => (catX (Tx.mk [110, 101, 116, 32]) t1).bind fun t2 => (catX t2 (Tx.mk [32])).bind fun t3 => (strO n).bind fun t4 => (catX t3 t4).bind fun t5 => k t5) Q := by
  have la := strX_len a
  have lb := strX_len b
  refine Ok.bind (strO_ok a) fun t1 h1 => ?_
  subst h1
  refine Ok.bind (catL (by show 4 + (strX p).cs.length ≤ _; omega)) fun t2 h2 => ?_
  have l2 : t2.cs.length = 4 + (strX p).cs.length := h2.2
  refine Ok.bind (catL (by show t2.cs.length + 1 ≤ _; omega)) fun t3 h3 => Ok.bind (strO_ok b) fun t4 h4 => ?_
  have l3 : t3.cs.length = t2.cs.length + 1 := h3.2
  subst h4
  refine Ok.bind (catL (by omega)) fun t5 h5 => ?_
  have : t5 = headT p n := by
    rw [h5.1, h3.1, h2.1]
    show Tx.mk _ = Tx.mk (headT p n).cs
    rw [head_cs]
  rw [this]
  exact h
theorem net_text_ok {net : T3 Int Int (List (List (T2 Int Int)))} (h : NB net) : Ok (m_net_text_a1fb net) (fun r => r = ⟨netT net⟩) := by
  unfold m_net_text_a1fb
  have cl := h.cl
  refine head_ok92 (k := fun t5 => (foldO net.c ([t5]) (fun x8 (u7 : ((List Tx))) => ((mapO x8 (fun x14 => ((strO x14.a).bind fun t16 => (catX t16 (Tx.mk [58])).bind fun t17 => (strO x14.b).bind fun t18 => (catX t17 t18).bind fun t19 => some t19))).bind fun y20 => (catO ([(Tx.mk [99, 104, 101, 99, 107])] : List Tx) y20).bind fun t21 => (joinX (Tx.mk [32]) t21).bind fun t22 => (appO u7 t22).bind fun lines23 => some (lines23)))).bind fun (u24 : ((List Tx))) => ((joinX (Tx.mk [10]) u24).bind fun t25 => some t25)) h.a h.b ?_
  try dsimp only
  refine Ok.bind (P := fun u => u = linesN net) (Ok.imp (Ok.foldL (fun (xs : List (List (T2 Int Int))) (u : List Tx) => ∃ dn, dn ++ xs = net.c ∧ u = headT net.a net.b :: dn.map lineT) ⟨[], rfl, rfl⟩ fun x xs u ⟨dn, e, eu⟩ => ?_) fun u ⟨dn, e, eu⟩ => by rw [List.append_nil] at e; rw [eu, e]; rfl) fun u hu => ?_
  · have hx : x ∈ net.c := by rw [← e]; simp
    have hq := h.q x hx
    have xl : x.length ≤ 2000 := by
      have := h.pl
      rw [← e, List.map_append, List.sum_append, List.map_cons, List.sum_cons] at this
      omega
    refine Ok.bind (Ok.mapE pairT fun q hq' => Ok.bind (strO_ok (hq q hq').1) fun t16 h16 => ?_) fun y20 h20 => ?_
    · have la := strX_len (hq q hq').1
      have lb := strX_len (hq q hq').2
      subst h16
      refine Ok.bind (catL (by show (strX q.a).cs.length + 1 ≤ _; omega)) fun t17 h17 => Ok.bind (strO_ok (hq q hq').2) fun t18 h18 => ?_
      have l17 : t17.cs.length = (strX q.a).cs.length + 1 := h17.2
      subst h18
      refine Ok.bind (catL (by omega)) fun t19 h19 => Ok.pure ?_
      rw [h19.1, h17.1]
      show Tx.mk _ = Tx.mk (pairT q).cs
      rw [pair_cs, List.append_assoc]
    · refine Ok.bind (cat_ok (by rw [h20, List.length_map]; show 1 + _ ≤ _; omega)) fun t21 h21 => ?_
      subst h21 h20
      refine Ok.bind (join_row (f := checkF) (ws := x.map pairT) (pairs_len hq) (by show 5 + (x.map pairT).length * 124 ≤ 900000; rw [List.length_map]; omega)) fun t22 h22 => ?_
      have dl : dn.length ≤ 400 := by rw [← e, List.length_append] at cl; omega
      refine Ok.bind (app_ok (by rw [eu, List.length_cons, List.length_map]; omega)) fun l23 h23 => Ok.pure ⟨dn ++ [x], by rw [← e]; simp, ?_⟩
      rw [h23, eu, h22, List.map_append]
      rfl
  · subst hu
    refine Ok.bind (joinX_ok (s := ⟨[10]⟩) ?_) fun t25 h25 => Ok.pure h25
    have := linesN_sum h
    rw [linesN_many]
    show _ + _ * 1 ≤ _
    omega
theorem read_pair_ok {q : T2 Int Int} (h : N60 q.a ∧ N60 q.b) : Ok (m_read_pair_1956 (pairT q)) (fun r => r = q) := by
  unfold m_read_pair_1956
  have l := pairT_len h
  refine Ok.bind (split_join (c := 58) (p := strX q.a) (xs := [strX q.b]) (str_free (by decide) (by decide)) (fun x hx => by rw [List.mem_singleton.mp hx]; exact str_free (by decide) (by decide)) (by show (pairT q).cs.length ≤ _; omega)) fun t1 h1 => ?_
  subst h1
  refine Ok.ite (fun z => by cases z) fun _ => Ok.bind (P := fun t => t = strX q.a) ⟨_, rfl, rfl⟩ fun t2 h2 => ?_
  subst h2
  refine Ok.bind (read_str h.1) fun t3 h3 => Ok.bind (P := fun t => t = strX q.b) ⟨_, rfl, rfl⟩ fun t4 h4 => ?_
  subst h4
  exact Ok.bind (read_str h.2) fun t5 h5 => Ok.pure (by rw [h3, h5])
theorem read_net_ok {net : T3 Int Int (List (List (T2 Int Int)))} (h : NB net) : Ok (m_read_net_e7d5 ⟨netT net⟩) (fun r => r = net) := by
  unfold m_read_net_e7d5
  have cl := h.cl
  refine Ok.bind (split_joinL (c := 10) (xs := linesN net) (by unfold linesN; simp) (fun x hx => ?_) (by have := netT_len h; unfold netT at this; omega)) fun t1 h1 => ?_
  · rcases List.mem_cons.mp hx with e | e
    · rw [e]; exact head_free
    · obtain ⟨y, _, ey⟩ := List.mem_map.mp e
      subst ey
      exact line_free
  · subst h1
    refine Ok.bind (P := fun t => t = headT net.a net.b) (Ok.imp (Ok.ix (xs := linesN net) (Int.le_refl _) (by rw [linesN_many]; omega)) fun r hr => (Option.some.inj hr.2).symm) fun t2 h2 => ?_
    subst h2
    refine Ok.bind (numbers_ok (f := netF) (ns := [net.a, net.b]) (by decide) (two60 h.a h.b) (by show 3 + 2 * 62 ≤ 900000; decide)) fun t3 h3 => ?_
    subst h3
    have ec : cut (linesN net) (some 1) none = net.c.map lineT := cut_one _ _
    rw [ec]
    refine Ok.ite (fun z => by cases z) fun _ => Ok.bind (P := fun u => u = net.c) (Ok.imp (Ok.foldL (fun (xs : List Tx) (u : List (List (T2 Int Int))) => ∃ rest, xs = rest.map lineT ∧ u ++ rest = net.c) ⟨net.c, rfl, rfl⟩ fun x xs u ⟨rest, ex, eu⟩ => ?_) fun u ⟨rest, ex, eu⟩ => by
      cases rest with
      | nil => rw [List.append_nil] at eu; exact eu
      | cons m rest => cases ex) fun u hu => Ok.bind (P := fun t => t = net.a) ⟨_, rfl, rfl⟩ fun t16 h16 => Ok.bind (P := fun t => t = net.b) ⟨_, rfl, rfl⟩ fun t17 h17 => Ok.pure (by rw [h16, h17, hu])
    cases rest with
    | nil => cases ex
    | cons m rest =>
      rw [List.map_cons] at ex
      obtain ⟨e1, e2⟩ := List.cons.inj ex
      subst e1
      have hm : m ∈ net.c := by rw [← eu]; simp
      have hq := h.q m hm
      have ml : m.length ≤ 2000 := by
        have := h.pl
        rw [← eu, List.map_append, List.sum_append, List.map_cons, List.sum_cons] at this
        omega
      refine Ok.bind (words_ok (f := checkF) (ws := m.map pairT) (by decide) (fun w hw => ?_) ?_) fun t8 h8 => ?_
      · obtain ⟨q, _, e⟩ := List.mem_map.mp hw
        subst e
        exact pair_free (by decide) (by decide) (by decide)
      · have := lineT_len hq
        show (lineT m).cs.length ≤ _
        omega
      · subst h8
        refine Ok.bind (mapO_back fun q hq' => Ok.bind (read_pair_ok (hq q hq')) fun t12 h12 => Ok.pure h12) fun y13 h13 => ?_
        subst h13
        refine Ok.bind (app_ok ?_) fun u' hu => Ok.pure ⟨rest, e2, ?_⟩
        · have : u.length + (y13 :: rest).length = net.c.length := by rw [← List.length_append, eu]
          rw [List.length_cons] at this
          omega
        · rw [hu, List.append_assoc]
          exact eu
end DL
end
section
namespace DL
theorem flat_len92 {α : Type} {f : α → List Nat} {B : Nat} {xs : List α} (h : ∀ x ∈ xs, (f x).length ≤ B) : (xs.map f).flatten.length ≤ xs.length * B := by
  induction xs with
  | nil => exact Nat.zero_le _
  | cons x xs ih =>
    rw [List.map_cons, List.flatten_cons, List.length_append, List.length_cons, Nat.add_mul]
    have := h x (List.mem_cons_self ..)
    have := ih fun y hy => h y (List.mem_cons_of_mem _ hy)
    omega
def accT (p n : Int) (dn : List (List (T2 Int Int))) : List Nat := joinN [10] ((headT p n :: dn.map lineT).map (·.cs))
theorem accT_snoc (p n : Int) (dn : List (List (T2 Int Int))) (x : List (T2 Int Int)) : accT p n (dn ++ [x]) = accT p n dn ++ 10 :: (lineT x).cs := by
  simp [accT, joinN_cons]
theorem written_ok {net : T3 Int Int (List (List (T2 Int Int)))} (h : NB net) : Ok (m_Lwritten_9474 net) (fun r => r = ⟨netT net⟩) := by
  unfold m_Lwritten_9474
  have cl := h.cl
  refine head_ok92 (k := fun t5 => (foldO net.c (t5) (fun x7 (u6 : (Tx)) => ((catX u6 (Tx.mk [10, 99, 104, 101, 99, 107])).bind fun t9 => (mapO x7 (fun x15 => ((strO x15.a).bind fun t17 => (catX (Tx.mk [32]) t17).bind fun t18 => (catX t18 (Tx.mk [58])).bind fun t19 => (strO x15.b).bind fun t20 => (catX t19 t20).bind fun t21 => some t21))).bind fun y22 => (joinX (Tx.mk []) y22).bind fun t23 => (catX t9 t23).bind fun t24 => some (t24)))).bind fun (u25 : (Tx)) => some u25) h.a h.b ?_
  try dsimp only
  refine Ok.bind (P := fun u => u = ⟨netT net⟩) (Ok.imp (Ok.foldL (fun (xs : List (List (T2 Int Int))) (u : Tx) => ∃ dn, dn ++ xs = net.c ∧ u = ⟨accT net.a net.b dn⟩) ⟨[], rfl, rfl⟩ fun x xs u ⟨dn, e, eu⟩ => ?_) fun u ⟨dn, e, eu⟩ => by rw [List.append_nil] at e; rw [eu, e]; rfl) fun u hu => Ok.pure hu
  have hx : x ∈ net.c := by rw [← e]; simp
  have hq := h.q x hx
  have pl := h.pl
  rw [← e, List.map_append, List.sum_append, List.map_cons, List.sum_cons] at pl
  have dl : dn.length ≤ 400 := by rw [← e, List.length_append] at cl; omega
  have hd : NB (T3.mk net.a net.b dn) := ⟨h.a, h.b, fun y hy => h.q y (by rw [← e]; exact List.mem_append_left _ hy), dl, by show (dn.map List.length).sum ≤ 2000; omega⟩
  have lu : u.cs.length ≤ 260000 := by rw [eu]; exact netT_len hd
  refine Ok.bind (catL (by show u.cs.length + 6 ≤ _; omega)) fun t9 h9 => Ok.bind (Ok.mapE (fun q => Tx.mk (32 :: (pairT q).cs)) fun q hq' => Ok.bind (strO_ok (hq q hq').1) fun t17 h17 => ?_) fun y22 h22 => ?_
  · have la := strX_len (hq q hq').1
    have lb := strX_len (hq q hq').2
    subst h17
    refine Ok.bind (catL (by show 1 + (strX q.a).cs.length ≤ _; omega)) fun t18 h18 => ?_
    have l18 : t18.cs.length = 1 + (strX q.a).cs.length := h18.2
    refine Ok.bind (catL (by show t18.cs.length + 1 ≤ _; omega)) fun t19 h19 => Ok.bind (strO_ok (hq q hq').2) fun t20 h20 => ?_
    have l19 : t19.cs.length = t18.cs.length + 1 := h19.2
    subst h20
    refine Ok.bind (catL (by omega)) fun t21 h21 => Ok.pure ?_
    rw [h21.1, h19.1, h18.1, pair_cs]
    simp
  · have l9 : t9.cs.length = u.cs.length + 6 := h9.2
    have hl : ∀ w ∈ y22, w.cs.length ≤ 124 := fun w hw => by
      rw [h22] at hw
      obtain ⟨q, hq', ew⟩ := List.mem_map.mp hw
      subst ew
      have := pairT_len (hq q hq')
      show (32 :: (pairT q).cs).length ≤ _
      rw [List.length_cons]
      omega
    have ly : y22.length = x.length := by rw [h22, List.length_map]
    refine Ok.bind (joinX_ok (s := ⟨[]⟩) (xs := y22) ?_) fun t23 h23 => ?_
    · have := (joinN_lenB [] 124 hl).2
      show (y22.map (·.cs.length)).sum + y22.length * 0 ≤ _
      omega
    · have l23 : t23.cs.length ≤ x.length * 124 := by
        have := (joinN_lenB [] 124 hl).1
        rw [h23]
        show (joinN [] _).length ≤ _
        rw [ly] at this
        exact this
      refine Ok.bind (catL (by omega)) fun t24 h24 => Ok.pure ⟨dn ++ [x], by rw [← e]; simp, ?_⟩
      rw [h24.1, h9.1, h23, eu, accT_snoc, h22, joinN_flat]
      congr 1
      show _ = accT net.a net.b dn ++ 10 :: joinN [32] (checkF.cs :: (x.map pairT).map (·.cs))
      rw [joinN_cons, List.map_map, List.map_map, List.map_map]
      show accT net.a net.b dn ++ [10, 99, 104, 101, 99, 107] ++ (x.map fun q => 32 :: (pairT q).cs).flatten = accT net.a net.b dn ++ ([10] ++ ([99, 104, 101, 99, 107] ++ (x.map fun q => 32 :: (pairT q).cs).flatten))
      simp
theorem wild_ok : Tr m_Lwild_net_d90d NB := Tr.mk fun b hb => by
  unfold m_Lwild_net_d90d
  refine Ok.bind (drawS (by decide) (by decide) hb) fun r2 h2 => ?_
  have h22 := h2.2
  refine Ok.bind (Ok.rng (by decide) (by decide) (by omega) (by omega) (by omega)) fun t ht => ?_
  subst ht
  refine Ok.bind (Ok.foldR (fun k (s : Bag × List (List (T2 Int Int))) => WB s.1 ∧ (∀ x ∈ s.2, ∀ q ∈ x, N60 q.a ∧ N60 q.b) ∧ (s.2.length : Int) = k ∧ (s.2.map List.length).sum ≤ s.2.length * 3) h22.1 ⟨h2.1, fun x hx => by simp at hx, rfl, Nat.le_refl _⟩ fun k s k0 k1 ⟨i1, i2, i3, i4⟩ => ?_) fun s ⟨i1, i2, i3, i4⟩ => Ok.bind (numberN_ok.ok i1) fun r18 h18 => Ok.bind (numberN_ok.ok h18.1) fun r19 h19 => Ok.pure ⟨h19.1, h18.2, h19.2, i2, by show s.2.length ≤ _; omega, by show (s.2.map List.length).sum ≤ _; omega⟩
  refine Ok.bind (drawS (by decide) (by decide) i1) fun r7 h7 => ?_
  have h72 := h7.2
  refine Ok.bind (Ok.rng (by decide) (by decide) (by omega) (by omega) (by omega)) fun t ht => ?_
  subst ht
  refine Ok.bind (Ok.mapB (fun (_ : Int) (q : T2 Int Int) => N60 q.a ∧ N60 q.b) (fun x _ => Tr.mk fun b hb => Ok.bind (numberN_ok.ok hb) fun r13 h13 => Ok.bind (numberN_ok.ok h13.1) fun r14 h14 => Ok.pure ⟨h14.1, h13.2, h14.2⟩) h7.1) fun y15 ⟨w15, m15⟩ => Ok.bind (app_ok (by omega)) fun c16 h16 => Ok.pure ⟨w15, fun x hx => ?_, ?_, ?_⟩
  · have hx : x ∈ c16 := hx
    rw [h16] at hx
    rcases List.mem_append.mp hx with m | m
    · exact i2 x m
    · rw [List.mem_singleton.mp m]
      intro q hq
      obtain ⟨_, _, h⟩ := m15.mem q hq
      exact h
  · show (c16.length : Int) = _
    rw [h16, List.length_append]
    show ((s.2.length + 1 : Nat) : Int) = _
    omega
  · have l15 := m15.length
    rw [rng_length] at l15
    show (c16.map List.length).sum ≤ c16.length * 3
    rw [h16, List.map_append, List.sum_append, List.length_append]
    show _ + (y15.1.length + 0) ≤ (_ + 1) * 3
    omega
theorem any_net_ok : Tr m_Lany_net_80a2 NB := Tr.mk fun b hb => by
  unfold m_Lany_net_80a2
  refine Ok.bind (prime3_ok.ok hb) fun r1 ⟨w1, hp⟩ => ?_
  have p2 := hp.ge
  have ple : r1.1 ≤ 10 ^ 60 := by
    have := hp.2.2
    have : (2 : Int) ^ 134 ≤ 10 ^ 60 := by decide
    omega
  refine Ok.bind (drawS (by decide) (by decide) w1) fun r2 h2 => Ok.bind (drawS (by decide) (by decide) h2.1) fun r3 h3 => Ok.bind (Ok.div 20 (by decide) (by decide)) fun t4 h4 => Ok.bind (ix2 (x := (1 : Int) + r2.1) (y := (400 : Int)) (by have := h3.2; omega)) fun t5 h5 => ?_
  have r5 : 1 ≤ t5 ∧ t5 ≤ 400 := by have := h2.2; omega
  refine Ok.bind (drawS (by decide) (by decide) h3.1) fun r6 h6 => Ok.bind (Ok.div 20 (by decide) (by decide)) fun t7 h7 => Ok.bind (ix2 (x := (5 : Int)) (y := (240 : Int)) (by have := h6.2; omega)) fun t8 h8 => Ok.bind (drawS (by decide) (by decide) h6.1) fun r9 h9 => Ok.bind (drawS (by decide) (by decide) h9.1) fun r10 h10 => Ok.bind (Ok.div 20 (by decide) (by decide)) fun t11 h11 => Ok.bind (Ok.mulS (by unfold smallI; have := h10.2; omega)) fun t12 h12 => ?_
  have r11 : 0 ≤ t11 ∧ t11 ≤ 1 := by have := h10.2; omega
  have r12 : 0 ≤ t12 ∧ t12 ≤ 1 ∧ (t8 = 240 → t12 = 0) := by
    rcases h8 with e | e
    · have e12 : t12 = t11 * 1 := by rw [h12, decide_eq_true e]; rfl
      exact ⟨by omega, by omega, fun z => by omega⟩
    · have e12 : t12 = t11 * 0 := by rw [h12, decide_eq_false (by omega)]; rfl
      exact ⟨by omega, by omega, fun z => by omega⟩
  refine Ok.bind (Ok.imp (Ok.ix (xs := ([r9.1, (400 : Int)] : List Int)) r12.1 (by show t12 < 2; omega)) fun r hr => (show 0 ≤ r ∧ r ≤ 400 ∧ (t8 = 240 → r ≤ 8) from ?_)) fun t13 r13 => ?_
  · have h92 := h9.2
    have := hr.1
    simp only [List.mem_cons, List.not_mem_nil, or_false] at this
    refine ⟨by omega, by omega, fun e => ?_⟩
    have z := r12.2.2 e
    have e2 := hr.2
    rw [z] at e2
    have e2 : some r9.1 = some r := e2
    have := Option.some.inj e2
    omega
  have r8 : 0 < t8 ∧ t8 ≤ 240 := by omega
  refine Ok.bind (Ok.rng (by decide) (by decide) (by omega) (by omega) (by omega)) fun t ht => ?_
  subst ht
  refine Ok.bind (Ok.foldR (fun k (s : Bag × List (List (T2 Int Int))) => WB s.1 ∧ (∀ x ∈ s.2, ∀ q ∈ x, N60 q.a ∧ N60 q.b) ∧ (s.2.length : Int) = k ∧ (s.2.map List.length).sum ≤ s.2.length * t8.toNat) r13.1 ⟨h10.1, fun x hx => by simp at hx, rfl, Nat.zero_le _⟩ fun k s k0 k1 ⟨i1, i2, i3, i4⟩ => ?_) fun s ⟨i1, i2, i3, i4⟩ => Ok.pure ⟨i1, hp.nn60 (x := r1.1) (by omega) (Int.le_refl _), N60.of (by show _ < t5; omega) (by show t5 < _; omega), i2, by show s.2.length ≤ _; omega, ?_⟩
  · refine Ok.bind (drawS r8.1 (by omega) i1) fun r19 h19 => ?_
    have h192 := h19.2
    refine Ok.bind (Ok.rng (by decide) (by decide) (by omega) (by omega) (by omega)) fun t ht => ?_
    subst ht
    refine Ok.bind (drawn_ok (p := t5) (n := 1 + r19.1) (by omega) (by omega) h19.1 (by omega) (fun _ _ => rfl)) fun y25 h25 => ?_
    have l25 := h25.2.1
    refine Ok.bind (sset_ok (by omega)) fun t26 h26 => ?_
    subst h26
    have sl := sset_len y25.1
    refine Ok.bind (Ok.mapB (fun (x : Int) (q : T2 Int Int) => q.a = x ∧ N60 q.b) (fun x _ => Tr.mk fun b hb => Ok.bind (drawS (n := r1.1 - 1) (by omega) (by omega) hb) fun r30 h30 => Ok.pure ⟨h30.1, rfl, hp.nn60 (x := 1 + r30.1) (by omega) (by omega)⟩) h25.1) fun y31 ⟨w31, m31⟩ => Ok.bind (app_ok (by omega)) fun c32 h32 => Ok.pure ⟨w31, fun x hx => ?_, ?_, ?_⟩
    · have hx : x ∈ c32 := hx
      rw [h32] at hx
      rcases List.mem_append.mp hx with m | m
      · exact i2 x m
      · rw [List.mem_singleton.mp m]
        intro q hq
        obtain ⟨z, hz, h⟩ := m31.mem q hq
        have := h25.2.2 z (sset_mem.mp hz)
        exact ⟨by rw [h.1]; exact N60.of (by omega) (by omega), h.2⟩
    · show (c32.length : Int) = _
      rw [h32, List.length_append]
      show ((s.2.length + 1 : Nat) : Int) = _
      omega
    · have l31 := m31.length
      show (c32.map List.length).sum ≤ c32.length * t8.toNat
      rw [h32, List.map_append, List.sum_append, List.length_append]
      show _ + (y31.1.length + 0) ≤ (_ + 1) * t8.toNat
      rw [Nat.add_mul]
      omega
  · show (s.2.map List.length).sum ≤ 2000
    rcases h8 with e | e
    · rw [e] at i4
      have : s.2.length * (5 : Int).toNat ≤ 2000 := by show s.2.length * 5 ≤ 2000; omega
      omega
    · have := r13.2.2 e
      rw [e] at i4
      have : s.2.length * (240 : Int).toNat ≤ 2000 := by show s.2.length * 240 ≤ 2000; omega
      omega
theorem right_ok92 {net : T3 Int Int (List (List (T2 Int Int)))} (h : NB net) : Ok (m_Lnet_right_3a25 net) (fun r => r = true) := by
  unfold m_Lnet_right_3a25
  have cl := h.cl
  refine Ok.bind (P := fun y => y = net.c) ⟨net.c, mapO_id net.c, rfl⟩ fun y3 h3 => Ok.let ?_
  subst h3
  have long : ∀ x ∈ net.c, x.length ≤ 2000 := fun x hx => by
    obtain ⟨l1, l2, e⟩ := List.append_of_mem hx
    have pl := h.pl
    rw [e, List.map_append, List.sum_append, List.map_cons, List.sum_cons] at pl
    omega
  refine Ok.bind (net_text_ok (net := T3.mk net.a net.b net.c) h) fun t5 h5 => Ok.bind (written_ok h) fun t6 h6 => ?_
  have e56 : t5 = t6 := by rw [h5, h6]
  rw [decide_eq_true e56, decide_eq_true rfl]
  refine Ok.ite (fun z => by cases z) fun _ => ?_
  rw [h5]
  refine Ok.bind (read_net_ok (net := T3.mk net.a net.b net.c) h) fun t7 h7 => ?_
  subst h7
  rw [decide_eq_true rfl]
  refine Ok.ite (fun z => by cases z) fun _ => Ok.bind (P := fun y => y = net.c.map (· ++ [T2.mk (0 : Int) (7 : Int)])) (.of (if_pos (List.all_eq_true.mpr fun x hx => decide_eq_true (by have := long x hx; show x.length < 1000000; omega))) rfl) fun n9 h9 => ?_
  subst h9
  refine Ok.bind (app_ok (by rw [List.length_map]; omega)) fun f10 h10 => ?_
  have ec : cut f10 none (some (-1)) = net.c.map (· ++ [T2.mk (0 : Int) (7 : Int)]) := by
    rw [h10]
    unfold cut
    have e1 : sIx (net.c.map (· ++ [T2.mk (0 : Int) (7 : Int)]) ++ [[]]).length (net.c.map (· ++ [T2.mk (0 : Int) (7 : Int)]) ++ [[]]).length (some (-1)) = net.c.length := by
      rw [List.length_append, List.length_map]
      unfold sIx
      dsimp only
      rw [if_pos (by decide)]
      show ((-1 : Int) + ((net.c.length + 1 : Nat) : Int)).toNat = _
      omega
    have e0 : ∀ n : Nat, sIx n 0 none = 0 := fun _ => rfl
    rw [e1, e0, Nat.sub_zero, List.drop_zero, List.take_left' (by rw [List.length_map])]
  show Ok ((mapO (cut f10 none (some (-1))) (fun x11 => some (lenI x11))).bind _) _
  rw [ec]
  refine Ok.bind (Ok.mapE (fun x => lenI x) fun x _ => Ok.pure rfl) fun y13 h13 => Ok.bind (Ok.mapE (fun x => lenI x + 1) fun x _ => Ok.pure rfl) fun y16 h16 => ?_
  have e : y13 = y16 := by
    rw [h13, h16, List.map_map]
    refine List.map_congr_left fun x _ => ?_
    show ((x ++ [_]).length : Int) = (x.length : Int) + 1
    rw [List.length_append]
    rfl
  rw [decide_eq_true e]
  refine Ok.ite (fun z => by cases z) fun _ => Ok.bind (read_net_ok (net := T3.mk net.a net.b net.c) h) fun t17 h17 => Ok.pure ?_
  rw [h17]
  exact decide_eq_true rfl
theorem law_k92 (ns : List Int) (hl : ns.length ≤ 63) : m_law_d1ef ns = some true := by
  have key : Ok (m_law_d1ef ns) (fun r => r = true) := by
    unfold m_law_d1ef
    obtain ⟨b, hb, wb⟩ := bag_ok ns
    refine Ok.bind (.of hb wb) fun b wb => Ok.bind (Ok.rng (by decide) (by decide) (by decide) (by decide) (by decide)) fun t ht => ?_
    subst ht
    refine Ok.bind (Ok.foldR (fun k (s : Bag × List (T3 Int Int (List (List (T2 Int Int))))) => WB s.1 ∧ (∀ x ∈ s.2, NB x) ∧ (s.2.length : Int) = k) (by decide) ⟨wb, fun x hx => by simp at hx, rfl⟩ fun k s k0 k1 ⟨i1, i2, i3⟩ => ?_) fun s ⟨i1, i2, i3⟩ => ?_
    · refine Ok.bind (drawS (by decide) (by decide) i1) fun r8 h8 => Ok.let (Ok.bind (P := fun t : T3 Int Int (List (List (T2 Int Int))) × Bag => WB t.2 ∧ NB t.1) (Ok.ite (fun _ => Ok.bind (wild_ok.ok h8.1) fun r h => Ok.pure h) fun _ => Ok.bind (any_net_ok.ok h8.1) fun r h => Ok.pure h) fun t12 h12 => Ok.bind (app_ok (by omega)) fun s13 h13 => Ok.pure ⟨h12.1, fun x hx => ?_, ?_⟩)
      · have hx : x ∈ s13 := hx
        rw [h13] at hx
        rcases List.mem_append.mp hx with m | m
        · exact i2 x m
        · rw [List.mem_singleton.mp m]; exact h12.2
      · show (s13.length : Int) = _
        rw [h13, List.length_append]
        show ((s.2.length + 1 : Nat) : Int) = _
        omega
    · have cs : ∀ x ∈ cut s.2 none (some 1), x ∈ s.2 := fun x hx => List.mem_of_mem_drop (List.mem_of_mem_take hx)
      have cl : (cut s.2 none (some 1)).length ≤ s.2.length := by
        unfold cut
        rw [List.length_take, List.length_drop]
        omega
      refine Ok.bind (cat_ok (by omega)) fun t15 h15 => Ok.after (fun _ : Unit => True) (fun r : Bool => False) trivial (fun x u hx _ => ?_) (fun r hr => hr.elim) fun _ _ => Ok.pure rfl
      have hN : NB x := by
        rw [h15] at hx
        rcases List.mem_append.mp hx with m | m
        · exact i2 x m
        · exact i2 x (cs x m)
      refine Ok.bind (right_ok92 hN) fun t21 h21 => ?_
      subst h21
      exact Ok.ite (fun z => by cases z) fun _ => Ok.next trivial
  obtain ⟨r, e, h⟩ := key
  rw [e, h]
end DL
end
section
namespace DL
namespace K92
open PySem PySem.Spec PyProof.Rows L2
theorem all_mk {l : PySem.W.OpenLaw} {w : World} {K : PySem.W.Frag} {h : Heap} {mg : Str → Option Value} {fa f0 f1 f2 f3 f4 f5 f6 f7 f8 f9 f10 f11 f12 f13 f14 f15 f16 f17 : Addr} (X : K.In h) (G : h.Ns mainGlobals mg) (hfa : mg "law" = some (.ref fa)) {od0 an0 : Option Addr} {sl0 : Array (Option Value)} {oc0 kV0 dc0 pm0 cd0 ct0 : Value} {od1 an1 : Option Addr} {sl1 : Array (Option Value)} {oc1 kV1 dc1 pm1 cd1 ct1 : Value} {od2 an2 : Option Addr} {sl2 : Array (Option Value)} {oc2 kV2 dc2 pm2 cd2 ct2 : Value} {od3 an3 : Option Addr} {sl3 : Array (Option Value)} {oc3 kV3 dc3 pm3 cd3 ct3 : Value} {od4 an4 : Option Addr} {sl4 : Array (Option Value)} {oc4 kV4 dc4 pm4 cd4 ct4 : Value} {od5 an5 : Option Addr} {sl5 : Array (Option Value)} {oc5 kV5 dc5 pm5 cd5 ct5 : Value} {od6 an6 : Option Addr} {sl6 : Array (Option Value)} {oc6 kV6 dc6 pm6 cd6 ct6 : Value} {od7 an7 : Option Addr} {sl7 : Array (Option Value)} {oc7 kV7 dc7 pm7 cd7 ct7 : Value} {od8 an8 : Option Addr} {sl8 : Array (Option Value)} {oc8 kV8 dc8 pm8 cd8 ct8 : Value} {od9 an9 : Option Addr} {sl9 : Array (Option Value)} {oc9 kV9 dc9 pm9 cd9 ct9 : Value} {od10 an10 : Option Addr} {sl10 : Array (Option Value)} {oc10 kV10 dc10 pm10 cd10 ct10 : Value} {od11 an11 : Option Addr} {sl11 : Array (Option Value)} {oc11 kV11 dc11 pm11 cd11 ct11 : Value} {od12 an12 : Option Addr} {sl12 : Array (Option Value)} {oc12 kV12 dc12 pm12 cd12 ct12 : Value} {od13 an13 : Option Addr} {sl13 : Array (Option Value)} {oc13 kV13 dc13 pm13 cd13 ct13 : Value} {od14 an14 : Option Addr} {sl14 : Array (Option Value)} {oc14 kV14 dc14 pm14 cd14 ct14 : Value} {od15 an15 : Option Addr} {sl15 : Array (Option Value)} {oc15 kV15 dc15 pm15 cd15 ct15 : Value} {od16 an16 : Option Addr} {sl16 : Array (Option Value)} {oc16 kV16 dc16 pm16 cd16 ct16 : Value} {od17 an17 : Option Addr} {sl17 : Array (Option Value)} {oc17 kV17 dc17 pm17 cd17 ct17 : Value}
    (a0 : PySem.W.nsIn K mainGlobals "read_whole" = some (some (.ref f0))) (l0 : K.lookup f0 = some ⟨oc0, od0, .func (PySem.W.fnOf "read_whole" "read_whole" (defArgs s_read_whole) (defBody s_read_whole) (defScope s_read_whole) .none kV0 dc0 pm0 an0 cd0 ct0), sl0⟩) (c0 : PySem.W.codeIn K cd0 "read_whole" = true) (k0 : PySem.W.keepIn K (.ref f0) = true)
    (a1 : PySem.W.nsIn K mainGlobals "words_behind" = some (some (.ref f1))) (l1 : K.lookup f1 = some ⟨oc1, od1, .func (PySem.W.fnOf "words_behind" "words_behind" (defArgs s_words_behind) (defBody s_words_behind) (defScope s_words_behind) .none kV1 dc1 pm1 an1 cd1 ct1), sl1⟩) (c1 : PySem.W.codeIn K cd1 "words_behind" = true) (k1 : PySem.W.keepIn K (.ref f1) = true)
    (a2 : PySem.W.nsIn K mainGlobals "numbers_behind" = some (some (.ref f2))) (l2 : K.lookup f2 = some ⟨oc2, od2, .func (PySem.W.fnOf "numbers_behind" "numbers_behind" (defArgs s_numbers_behind) (defBody s_numbers_behind) (defScope s_numbers_behind) .none kV2 dc2 pm2 an2 cd2 ct2), sl2⟩) (c2 : PySem.W.codeIn K cd2 "numbers_behind" = true) (k2 : PySem.W.keepIn K (.ref f2) = true)
    (a3 : PySem.W.nsIn K mainGlobals "net_text" = some (some (.ref f3))) (l3 : K.lookup f3 = some ⟨oc3, od3, .func (PySem.W.fnOf "net_text" "net_text" (defArgs s_net_text) (defBody s_net_text) (defScope s_net_text) .none kV3 dc3 pm3 an3 cd3 ct3), sl3⟩) (c3 : PySem.W.codeIn K cd3 "net_text" = true) (k3 : PySem.W.keepIn K (.ref f3) = true)
    (a4 : PySem.W.nsIn K mainGlobals "read_pair" = some (some (.ref f4))) (l4 : K.lookup f4 = some ⟨oc4, od4, .func (PySem.W.fnOf "read_pair" "read_pair" (defArgs s_read_pair) (defBody s_read_pair) (defScope s_read_pair) .none kV4 dc4 pm4 an4 cd4 ct4), sl4⟩) (c4 : PySem.W.codeIn K cd4 "read_pair" = true) (k4 : PySem.W.keepIn K (.ref f4) = true)
    (a5 : PySem.W.nsIn K mainGlobals "read_net" = some (some (.ref f5))) (l5 : K.lookup f5 = some ⟨oc5, od5, .func (PySem.W.fnOf "read_net" "read_net" (defArgs s_read_net) (defBody s_read_net) (defScope s_read_net) .none kV5 dc5 pm5 an5 cd5 ct5), sl5⟩) (c5 : PySem.W.codeIn K cd5 "read_net" = true) (k5 : PySem.W.keepIn K (.ref f5) = true)
    (a6 : PySem.W.nsIn K mainGlobals "_law_bag" = some (some (.ref f6))) (l6 : K.lookup f6 = some ⟨oc6, od6, .func (PySem.W.fnOf "_law_bag" "_law_bag" (defArgs s_Lbag) (defBody s_Lbag) (defScope s_Lbag) .none kV6 dc6 pm6 an6 cd6 ct6), sl6⟩) (c6 : PySem.W.codeIn K cd6 "_law_bag" = true) (k6 : PySem.W.keepIn K (.ref f6) = true)
    (a7 : PySem.W.nsIn K mainGlobals "_law_stirred" = some (some (.ref f7))) (l7 : K.lookup f7 = some ⟨oc7, od7, .func (PySem.W.fnOf "_law_stirred" "_law_stirred" (defArgs s_Lstirred) (defBody s_Lstirred) (defScope s_Lstirred) .none kV7 dc7 pm7 an7 cd7 ct7), sl7⟩) (c7 : PySem.W.codeIn K cd7 "_law_stirred" = true) (k7 : PySem.W.keepIn K (.ref f7) = true)
    (a8 : PySem.W.nsIn K mainGlobals "_law_draw" = some (some (.ref f8))) (l8 : K.lookup f8 = some ⟨oc8, od8, .func (PySem.W.fnOf "_law_draw" "_law_draw" (defArgs s_Ldraw) (defBody s_Ldraw) (defScope s_Ldraw) .none kV8 dc8 pm8 an8 cd8 ct8), sl8⟩) (c8 : PySem.W.codeIn K cd8 "_law_draw" = true) (k8 : PySem.W.keepIn K (.ref f8) = true)
    (a9 : PySem.W.nsIn K mainGlobals "_law_alike" = some (some (.ref f9))) (l9 : K.lookup f9 = some ⟨oc9, od9, .func (PySem.W.fnOf "_law_alike" "_law_alike" (defArgs s_Lalike) (defBody s_Lalike) (defScope s_Lalike) .none kV9 dc9 pm9 an9 cd9 ct9), sl9⟩) (c9 : PySem.W.codeIn K cd9 "_law_alike" = true) (k9 : PySem.W.keepIn K (.ref f9) = true)
    (a10 : PySem.W.nsIn K mainGlobals "_law_prime_from" = some (some (.ref f10))) (l10 : K.lookup f10 = some ⟨oc10, od10, .func (PySem.W.fnOf "_law_prime_from" "_law_prime_from" (defArgs s_Lprime_from) (defBody s_Lprime_from) (defScope s_Lprime_from) .none kV10 dc10 pm10 an10 cd10 ct10), sl10⟩) (c10 : PySem.W.codeIn K cd10 "_law_prime_from" = true) (k10 : PySem.W.keepIn K (.ref f10) = true)
    (a11 : PySem.W.nsIn K mainGlobals "_law_prime" = some (some (.ref f11))) (l11 : K.lookup f11 = some ⟨oc11, od11, .func (PySem.W.fnOf "_law_prime" "_law_prime" (defArgs s_Lprime) (defBody s_Lprime) (defScope s_Lprime) .none kV11 dc11 pm11 an11 cd11 ct11), sl11⟩) (c11 : PySem.W.codeIn K cd11 "_law_prime" = true) (k11 : PySem.W.keepIn K (.ref f11) = true)
    (a12 : PySem.W.nsIn K mainGlobals "_law_number" = some (some (.ref f12))) (l12 : K.lookup f12 = some ⟨oc12, od12, .func (PySem.W.fnOf "_law_number" "_law_number" (defArgs s_Lnumber) (defBody s_Lnumber) (defScope s_Lnumber) .none kV12 dc12 pm12 an12 cd12 ct12), sl12⟩) (c12 : PySem.W.codeIn K cd12 "_law_number" = true) (k12 : PySem.W.keepIn K (.ref f12) = true)
    (a13 : PySem.W.nsIn K mainGlobals "_law_any_net" = some (some (.ref f13))) (l13 : K.lookup f13 = some ⟨oc13, od13, .func (PySem.W.fnOf "_law_any_net" "_law_any_net" (defArgs s_Lany_net) (defBody s_Lany_net) (defScope s_Lany_net) .none kV13 dc13 pm13 an13 cd13 ct13), sl13⟩) (c13 : PySem.W.codeIn K cd13 "_law_any_net" = true) (k13 : PySem.W.keepIn K (.ref f13) = true)
    (a14 : PySem.W.nsIn K mainGlobals "_law_wild_net" = some (some (.ref f14))) (l14 : K.lookup f14 = some ⟨oc14, od14, .func (PySem.W.fnOf "_law_wild_net" "_law_wild_net" (defArgs s_Lwild_net) (defBody s_Lwild_net) (defScope s_Lwild_net) .none kV14 dc14 pm14 an14 cd14 ct14), sl14⟩) (c14 : PySem.W.codeIn K cd14 "_law_wild_net" = true) (k14 : PySem.W.keepIn K (.ref f14) = true)
    (a15 : PySem.W.nsIn K mainGlobals "_law_written" = some (some (.ref f15))) (l15 : K.lookup f15 = some ⟨oc15, od15, .func (PySem.W.fnOf "_law_written" "_law_written" (defArgs s_Lwritten) (defBody s_Lwritten) (defScope s_Lwritten) .none kV15 dc15 pm15 an15 cd15 ct15), sl15⟩) (c15 : PySem.W.codeIn K cd15 "_law_written" = true) (k15 : PySem.W.keepIn K (.ref f15) = true)
    (a16 : PySem.W.nsIn K mainGlobals "_law_net_right" = some (some (.ref f16))) (l16 : K.lookup f16 = some ⟨oc16, od16, .func (PySem.W.fnOf "_law_net_right" "_law_net_right" (defArgs s_Lnet_right) (defBody s_Lnet_right) (defScope s_Lnet_right) .none kV16 dc16 pm16 an16 cd16 ct16), sl16⟩) (c16 : PySem.W.codeIn K cd16 "_law_net_right" = true) (k16 : PySem.W.keepIn K (.ref f16) = true)
    (a17 : PySem.W.nsIn K mainGlobals "law" = some (some (.ref f17))) (l17 : K.lookup f17 = some ⟨oc17, od17, .func (PySem.W.fnOf "law" "law" (defArgs s_law) (defBody s_law) (defScope s_law) .none kV17 dc17 pm17 an17 cd17 ct17), sl17⟩) (c17 : PySem.W.codeIn K cd17 "law" = true) (k17 : PySem.W.keepIn K (.ref f17) = true)
    (z_abs : PySem.W.nsIn K mainGlobals "abs" = some none) (z_all : PySem.W.nsIn K mainGlobals "all" = some none) (z_bool : PySem.W.nsIn K mainGlobals "bool" = some none) (z_int : PySem.W.nsIn K mainGlobals "int" = some none) (z_isinstance : PySem.W.nsIn K mainGlobals "isinstance" = some none) (z_len : PySem.W.nsIn K mainGlobals "len" = some none) (z_list : PySem.W.nsIn K mainGlobals "list" = some none) (z_range : PySem.W.nsIn K mainGlobals "range" = some none) (z_set : PySem.W.nsIn K mainGlobals "set" = some none) (z_sorted : PySem.W.nsIn K mainGlobals "sorted" = some none) (z_str : PySem.W.nsIn K mainGlobals "str" = some none) (z_tuple : PySem.W.nsIn K mainGlobals "tuple" = some none) {t_FIGURES : Tok} (c_FIGURES : PySem.W.nsIn K mainGlobals "FIGURES" = some (some (.str (Str.ofString "0123456789") t_FIGURES))) {t_MOST : Tok} (c_MOST : PySem.W.nsIn K mainGlobals "MOST" = some (some (.int 60 t_MOST))) :
    ∃ fd : FuncData, (∀ (s : Shared) (v : Value), BindsTo s fd ⟨[v], []⟩ [("script", v)]) ∧ ∀ base : Heap, K.In base → base.Ns mainGlobals mg → FnOk l.prog w K mg base CX0 10 fa fd ["script"] (sp (S_law K)) := by
  have e := hfa.symm.trans (PySem.W.mg_of X G a17)
  cases e
  have z_abs := PySem.W.mg_none_of X G z_abs
  have z_all := PySem.W.mg_none_of X G z_all
  have z_bool := PySem.W.mg_none_of X G z_bool
  have z_int := PySem.W.mg_none_of X G z_int
  have z_isinstance := PySem.W.mg_none_of X G z_isinstance
  have z_len := PySem.W.mg_none_of X G z_len
  have z_list := PySem.W.mg_none_of X G z_list
  have z_range := PySem.W.mg_none_of X G z_range
  have z_set := PySem.W.mg_none_of X G z_set
  have z_sorted := PySem.W.mg_none_of X G z_sorted
  have z_str := PySem.W.mg_none_of X G z_str
  have z_tuple := PySem.W.mg_none_of X G z_tuple
  have c_FIGURES := PySem.W.mg_of X G c_FIGURES
  have c_MOST := PySem.W.mg_of X G c_MOST
  have F0 := fun_mk (st := s_read_whole) l0 c0 k0
  have F1 := fun_mk (st := s_words_behind) l1 c1 k1
  have F2 := fun_mk (st := s_numbers_behind) l2 c2 k2
  have F3 := fun_mk (st := s_net_text) l3 c3 k3
  have F4 := fun_mk (st := s_read_pair) l4 c4 k4
  have F5 := fun_mk (st := s_read_net) l5 c5 k5
  have F6 := fun_mk (st := s_Lbag) l6 c6 k6
  have F7 := fun_mk (st := s_Lstirred) l7 c7 k7
  have F8 := fun_mk (st := s_Ldraw) l8 c8 k8
  have F9 := fun_mk (st := s_Lalike) l9 c9 k9
  have F10 := fun_mk (st := s_Lprime_from) l10 c10 k10
  have F11 := fun_mk (st := s_Lprime) l11 c11 k11
  have F12 := fun_mk (st := s_Lnumber) l12 c12 k12
  have F13 := fun_mk (st := s_Lany_net) l13 c13 k13
  have F14 := fun_mk (st := s_Lwild_net) l14 c14 k14
  have F15 := fun_mk (st := s_Lwritten) l15 c15 k15
  have F16 := fun_mk (st := s_Lnet_right) l16 c16 k16
  have F17 := fun_mk (st := s_law) l17 c17 k17
  refine ⟨PySem.W.fnOf "law" "law" (defArgs s_law) (defBody s_law) (defScope s_law) .none kV17 dc17 pm17 an17 cd17 ct17, fun s v => .of_eq rfl, fun base _ _ => ?_⟩
  have b0 := F0.binds (ps := ["text", "most"]) fun _ _ _ _ _ _ us hl => match us, hl with | [_, _], _ => rfl
  have d_read_whole : Def l.prog w K mg base "read_whole" 1 ["text", "most"] S_read_whole := ⟨f0, _, ok_read_whole z_int z_len c_FIGURES F0, PySem.W.mg_of X G a0, k0, b0⟩
  have b1 := F1.binds (ps := ["line", "first"]) fun _ _ _ _ _ _ us hl => match us, hl with | [_, _], _ => rfl
  have d_words_behind : Def l.prog w K mg base "words_behind" 1 ["line", "first"] S_words_behind := ⟨f1, _, ok_words_behind  F1, PySem.W.mg_of X G a1, k1, b1⟩
  have b2 := F2.binds (ps := ["line", "first"]) fun _ _ _ _ _ _ us hl => match us, hl with | [_, _], _ => rfl
  have d_numbers_behind : Def l.prog w K mg base "numbers_behind" 2 ["line", "first"] S_numbers_behind := ⟨f2, _, ok_numbers_behind d_read_whole d_words_behind c_MOST F2, PySem.W.mg_of X G a2, k2, b2⟩
  have b3 := F3.binds (ps := ["net"]) fun _ _ _ _ _ _ us hl => match us, hl with | [_], _ => rfl
  have d_net_text : Def l.prog w K mg base "net_text" 1 ["net"] S_net_text := ⟨f3, _, ok_net_text z_str F3, PySem.W.mg_of X G a3, k3, b3⟩
  have b4 := F4.binds (ps := ["text"]) fun _ _ _ _ _ _ us hl => match us, hl with | [_], _ => rfl
  have d_read_pair : Def l.prog w K mg base "read_pair" 2 ["text"] S_read_pair := ⟨f4, _, ok_read_pair d_read_whole z_len c_MOST F4, PySem.W.mg_of X G a4, k4, b4⟩
  have b5 := F5.binds (ps := ["text"]) fun _ _ _ _ _ _ us hl => match us, hl with | [_], _ => rfl
  have d_read_net : Def l.prog w K mg base "read_net" 3 ["text"] S_read_net := ⟨f5, _, ok_read_net d_numbers_behind d_read_pair d_words_behind z_len F5, PySem.W.mg_of X G a5, k5, b5⟩
  have b6 := F6.binds (ps := ["script"]) fun _ _ _ _ _ _ us hl => match us, hl with | [_], _ => rfl
  have d_Lbag : Def l.prog w K mg base "_law_bag" 1 ["script"] (S_Lbag K) := ⟨f6, _, ok_Lbag z_abs F6, PySem.W.mg_of X G a6, k6, b6⟩
  have b7 := F7.binds (ps := ["bag", "many"]) fun _ _ _ _ _ _ us hl => match us, hl with | [_, _], _ => rfl
  have d_Lstirred : Def l.prog w K mg base "_law_stirred" 1 ["bag", "many"] S_Lstirred := ⟨f7, _, ok_Lstirred z_range F7, PySem.W.mg_of X G a7, k7, b7⟩
  have b8 := F8.binds (ps := ["bag", "many"]) fun _ _ _ _ _ _ us hl => match us, hl with | [_, _], _ => rfl
  have d_Ldraw : Def l.prog w K mg base "_law_draw" 2 ["bag", "many"] S_Ldraw := ⟨f8, _, ok_Ldraw d_Lstirred z_len F8, PySem.W.mg_of X G a8, k8, b8⟩
  have b9 := F9.binds (ps := ["found", "due"]) fun _ _ _ _ _ _ us hl => match us, hl with | [_, _], _ => rfl
  have d_Lalike : Def l.prog w K mg base "_law_alike" 8 ["found", "due"] (SA 8) := ⟨f9, _, ok_Lalike z_all z_bool z_int z_isinstance z_len z_list z_range z_str z_tuple F9 (PySem.W.mg_of X G a9) k9 b9 8, PySem.W.mg_of X G a9, k9, b9⟩
  have b10 := F10.binds (ps := ["number"]) fun _ _ _ _ _ _ us hl => match us, hl with | [_], _ => rfl
  have d_Lprime_from : Def l.prog w K mg base "_law_prime_from" 1 ["number"] S_Lprime_from := ⟨f10, _, ok_Lprime_from z_range F10, PySem.W.mg_of X G a10, k10, b10⟩
  have b11 := F11.binds (ps := ["bag"]) fun _ _ _ _ _ _ us hl => match us, hl with | [_], _ => rfl
  have d_Lprime : Def l.prog w K mg base "_law_prime" 3 ["bag"] S_Lprime := ⟨f11, _, ok_Lprime d_Ldraw d_Lprime_from F11, PySem.W.mg_of X G a11, k11, b11⟩
  have b12 := F12.binds (ps := ["bag"]) fun _ _ _ _ _ _ us hl => match us, hl with | [_], _ => rfl
  have d_Lnumber : Def l.prog w K mg base "_law_number" 3 ["bag"] S_Lnumber := ⟨f12, _, ok_Lnumber d_Ldraw F12, PySem.W.mg_of X G a12, k12, b12⟩
  have b13 := F13.binds (ps := ["bag"]) fun _ _ _ _ _ _ us hl => match us, hl with | [_], _ => rfl
  have d_Lany_net : Def l.prog w K mg base "_law_any_net" 4 ["bag"] S_Lany_net := ⟨f13, _, ok_Lany_net d_Ldraw d_Lprime z_int z_range z_set z_sorted F13, PySem.W.mg_of X G a13, k13, b13⟩
  have b14 := F14.binds (ps := ["bag"]) fun _ _ _ _ _ _ us hl => match us, hl with | [_], _ => rfl
  have d_Lwild_net : Def l.prog w K mg base "_law_wild_net" 4 ["bag"] S_Lwild_net := ⟨f14, _, ok_Lwild_net d_Ldraw d_Lnumber z_range F14, PySem.W.mg_of X G a14, k14, b14⟩
  have b15 := F15.binds (ps := ["net"]) fun _ _ _ _ _ _ us hl => match us, hl with | [_], _ => rfl
  have d_Lwritten : Def l.prog w K mg base "_law_written" 1 ["net"] S_Lwritten := ⟨f15, _, ok_Lwritten z_str F15, PySem.W.mg_of X G a15, k15, b15⟩
  have b16 := F16.binds (ps := ["net"]) fun _ _ _ _ _ _ us hl => match us, hl with | [_], _ => rfl
  have d_Lnet_right : Def l.prog w K mg base "_law_net_right" 9 ["net"] S_Lnet_right := ⟨f16, _, ok_Lnet_right d_Lalike d_Lwritten d_net_text d_read_net z_len z_list F16, PySem.W.mg_of X G a16, k16, b16⟩
  exact ok_law d_Lany_net d_Lbag d_Ldraw d_Lnet_right d_Lwild_net z_range F17
theorem law_sp (hf : ∀ ns : List Int, ns.length ≤ 63 → m_law_d1ef ns = some true) (K : PySem.W.Frag) (H : Hp) (a : Addr) (ns : List Int) (hl : ns.length ≤ 63) (hS : SqL K H a (ns.map V.int)) : sp (S_law K) [.ref a] H (fun v _ => v = .bl true) fun _ _ _ => False :=
  ⟨H, [dyS K ns], [], .fro (dy true), [], ⟨⟨a, rfl, hS, hl⟩, trivial⟩, W.nil (Ex.refl _) (Ex.refl _), ⟨ns, true, rfl, hf ns hl, rfl, rfl⟩, fun v G H w r => r⟩
end K92
end DL
open PySem PySem.W PyProof.Rows
set_option maxHeartbeats 0 in
theorem PySem.Challenge.cw_fewchecks_k92_whole_net_texts_holds : PySem.Challenge.rw_fewchecks_k92_whole_net_texts.Holds := by
  w_on; o_law; k_head; (case hw => w_witness2)
  k_fill
  refine L2.walk_of (l := PySem.Challenge.rw_fewchecks_k92_whole_net_texts) (n := 63) (k := 10) (x := "script") (CX := fun _ => L2.CX0) (sp := fun w => DL.sp (DL.K92.S_law _)) rfl (by decide) rfl ⟨rfl, by decide, by decide⟩ (fun w h Y => PySem.W.kIn_of Y) ?F (fun _ H a ns hl _ hS => DL.K92.law_sp DL.law_k92 _ H a ns hl hS) (fun _ _ _ _ _ h => h)
  case F =>
    intro w mg fa h KX G hmg
    refine' DL.K92.all_mk KX G hmg ?a0 ?l0 ?c0 ?k0 ?a1 ?l1 ?c1 ?k1 ?a2 ?l2 ?c2 ?k2 ?a3 ?l3 ?c3 ?k3 ?a4 ?l4 ?c4 ?k4 ?a5 ?l5 ?c5 ?k5 ?a6 ?l6 ?c6 ?k6 ?a7 ?l7 ?c7 ?k7 ?a8 ?l8 ?c8 ?k8 ?a9 ?l9 ?c9 ?k9 ?a10 ?l10 ?c10 ?k10 ?a11 ?l11 ?c11 ?k11 ?a12 ?l12 ?c12 ?k12 ?a13 ?l13 ?c13 ?k13 ?a14 ?l14 ?c14 ?k14 ?a15 ?l15 ?c15 ?k15 ?a16 ?l16 ?c16 ?k16 ?a17 ?l17 ?c17 ?k17 ?z_abs ?z_all ?z_bool ?z_int ?z_isinstance ?z_len ?z_list ?z_range ?z_set ?z_sorted ?z_str ?z_tuple ?c_FIGURES ?c_MOST
    (case a0 => k_is); (case l0 => k_is); (case c0 => k_is); (case k0 => k_is); (case a1 => k_is); (case l1 => k_is); (case c1 => k_is); (case k1 => k_is); (case a2 => k_is); (case l2 => k_is); (case c2 => k_is); (case k2 => k_is); (case a3 => k_is); (case l3 => k_is); (case c3 => k_is); (case k3 => k_is); (case a4 => k_is); (case l4 => k_is); (case c4 => k_is); (case k4 => k_is); (case a5 => k_is); (case l5 => k_is); (case c5 => k_is); (case k5 => k_is); (case a6 => k_is); (case l6 => k_is); (case c6 => k_is); (case k6 => k_is); (case a7 => k_is); (case l7 => k_is); (case c7 => k_is); (case k7 => k_is); (case a8 => k_is); (case l8 => k_is); (case c8 => k_is); (case k8 => k_is); (case a9 => k_is); (case l9 => k_is); (case c9 => k_is); (case k9 => k_is); (case a10 => k_is); (case l10 => k_is); (case c10 => k_is); (case k10 => k_is); (case a11 => k_is); (case l11 => k_is); (case c11 => k_is); (case k11 => k_is); (case a12 => k_is); (case l12 => k_is); (case c12 => k_is); (case k12 => k_is); (case a13 => k_is); (case l13 => k_is); (case c13 => k_is); (case k13 => k_is); (case a14 => k_is); (case l14 => k_is); (case c14 => k_is); (case k14 => k_is); (case a15 => k_is); (case l15 => k_is); (case c15 => k_is); (case k15 => k_is); (case a16 => k_is); (case l16 => k_is); (case c16 => k_is); (case k16 => k_is); (case a17 => k_is); (case l17 => k_is); (case c17 => k_is); (case k17 => k_is); (case z_abs => k_is); (case z_all => k_is); (case z_bool => k_is); (case z_int => k_is); (case z_isinstance => k_is); (case z_len => k_is); (case z_list => k_is); (case z_range => k_is); (case z_set => k_is); (case z_sorted => k_is); (case z_str => k_is); (case z_tuple => k_is); (case c_FIGURES => k_is); (case c_MOST => k_is)
end
