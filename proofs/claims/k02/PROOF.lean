import PyProof.Rows.All
import Wide.All
import OpenK.AllK
import Wide.FinOn
import HandS.ForMost
import HandS.ForExc
import HandS.Wide
import HandS.IsInst
import HandS.Flow
import HandS.Defaults
import HandS.SortInts
import HandS.Strs
import HandS.TupSets
import HandS.MakeKw
import HandS.MakeKwOnly
import HandS.Conv
import HandS.Steps
import KE.GoesMore
import HandS.Text
import HandS.Iter
import HandS.SortRule
import HandS.TupLe
import HandS.HeadHook1
import HandS.HeadHook2
import HandS.Deep
import KE.KStateDown
import Lean
import HandS.Head0
import HandS.Head1
import HandS.Head2
import HandS.HeadEnd
import PySem.Challenge.RW_fogfleet_k02_neighbours_of_a_place
set_option Elab.async false
set_option linter.all false
set_option maxRecDepth 100000
set_option maxHeartbeats 4000000
/-! the plain meaning of the program's steps: none is what this text says nothing about -/
namespace Mi
def pyLet {α β : Type} (e : α) (f : α → β) : β := f e
def ixN (n : Nat) (i : Int) : Option Nat := if 0 ≤ i then (if i < n then some i.toNat else none) else if -(n : Int) ≤ i then some (i + n).toNat else none
def at_ {α : Type} (xs : List α) (i : Int) : Option α := (ixN xs.length i).bind fun j => xs[j]?
def setAt {α : Type} (xs : List α) (i : Int) (x : α) : Option (List α) := (ixN xs.length i).bind fun j => some (xs.set j x)
def sIx (n d : Nat) : Option Int → Nat
  | none => d
  | some v => if v < 0 then (v + (n : Int)).toNat else min v.toNat n
def cut {α : Type} (xs : List α) (lo hi : Option Int) : List α := (xs.drop (sIx xs.length 0 lo)).take (sIx xs.length xs.length hi - sIx xs.length 0 lo)
def big : Nat := 1000000
def app {α : Type} (xs : List α) (x : α) : Option (List α) := if xs.length < big then some (xs ++ [x]) else none
def cat {α : Type} (xs ys : List α) : Option (List α) := if xs.length + ys.length ≤ big then some (xs ++ ys) else none
def mul (i j : Int) : Option Int := if (-(2 ^ 64) < i ∧ i < 2 ^ 64) ∨ (-(2 ^ 64) < j ∧ j < 2 ^ 64) then some (i * j) else none
def mod (i j : Int) : Option Int := if 0 < j then some (i % j) else none
def fdiv (i j : Int) : Option Int := if 0 < j ∧ j < 2 ^ 200 then some (i / j) else none
def guardO (c : Bool) : Option Unit := if c = true then some () else none
def smallI (i : Int) : Bool := decide (-(2 ^ 60) ≤ i) && decide (i < 2 ^ 60)
/-- range(lo, hi) -/
def rng (lo hi : Int) : List Int := (List.range (hi - lo).toNat).map fun (k : Nat) => lo + (k : Int)
/-- range(lo, hi, -1) -/
def rngDown (lo hi : Int) : List Int := (List.range (lo - hi).toNat).map fun (k : Nat) => lo - (k : Int)
/-- a for that runs through -/
def forN {α σ : Type} (f : σ → α → Option σ) : σ → List α → Option σ
  | s, [] => some s
  | s, x :: xs => (f s x).bind fun s' => forN f s' xs
/-- a for that may return (inl) -/
def forR {α σ ρ : Type} (f : σ → α → Option (ρ ⊕ σ)) : σ → List α → Option (ρ ⊕ σ)
  | s, [] => some (.inr s)
  | s, x :: xs => (f s x).bind fun
    | .inl r => some (.inl r)
    | .inr s' => forR f s' xs
/-- a for that may break (inl) -/
def forB {α σ : Type} (f : σ → α → Option (σ ⊕ σ)) : σ → List α → Option σ
  | s, [] => some s
  | s, x :: xs => (f s x).bind fun
    | .inl s' => some s'
    | .inr s' => forB f s' xs
/-- a comprehension: none of the inner option is an item left out; the state is what the items' making changes -/
def comp {α β σ : Type} (f : σ → α → Option (Option β × σ)) : σ → List α → Option (List β × σ)
  | s, [] => some ([], s)
  | s, x :: xs => (f s x).bind fun p => (comp f p.2 xs).bind fun q => some ((match p.1 with | some y => y :: q.1 | none => q.1), q.2)
/-- a comprehension that changes nothing -/
def comp0 {α β : Type} (f : α → Option (Option β)) : List α → Option (List β)
  | [] => some []
  | x :: xs => (f x).bind fun p => (comp0 f xs).bind fun q => some (match p with | some y => y :: q | none => q)
def whileN {σ : Type} (c : σ → Option Bool) (b : σ → Option σ) : Nat → σ → Option σ
  | 0, _ => none
  | n + 1, s => (c s).bind fun t => if t = true then (b s).bind fun s' => whileN c b n s' else some s
def whileR {σ ρ : Type} (c : σ → Option Bool) (b : σ → Option (ρ ⊕ σ)) : Nat → σ → Option (ρ ⊕ σ)
  | 0, _ => none
  | n + 1, s => (c s).bind fun t => if t = true then (b s).bind fun
      | .inl r => some (.inl r)
      | .inr s' => whileR c b n s'
    else some (.inr s)
theorem bnd {α β : Type} {m : Option α} {f : α → Option β} {r : β} (h : m.bind f = some r) : ∃ x, m = some x ∧ f x = some r := by
  cases m with
  | none => cases h
  | some x => exact ⟨x, rfl, h⟩
theorem letE {α β : Type} {e : α} {f : α → Option β} {r : Option β} (h : pyLet e f = r) : ∃ x, e = x ∧ f x = r := ⟨e, rfl, h⟩
theorem ifT {α : Type} {b : Bool} {x y : Option α} {r : Option α} (hb : b = true) (h : (if b = true then x else y) = r) : x = r := by
  rw [if_pos hb] at h; exact h
theorem ifF {α : Type} {b : Bool} {x y : Option α} {r : Option α} (hb : b = false) (h : (if b = true then x else y) = r) : y = r := by
  rw [hb, if_neg Bool.false_ne_true] at h; exact h
end Mi
namespace Mi
def rngO (lo hi : Int) : Option (List Int) := if (-(2 ^ 60) ≤ lo ∧ lo < 2 ^ 60) ∧ (-(2 ^ 60) ≤ hi ∧ hi < 2 ^ 60) then some (rng lo hi) else none
def rngDownO (lo hi : Int) : Option (List Int) := if (-(2 ^ 60) ≤ lo ∧ lo < 2 ^ 60) ∧ (-(2 ^ 60) ≤ hi ∧ hi < 2 ^ 60) then some (rngDown lo hi) else none
theorem forN_go {α σ : Type} {f : σ → α → Option σ} {s e : σ} {xs : List α} {i : Nat} {x : α} (h : forN f s (xs.drop i) = some e) (hx : xs[i]? = some x) : ∃ s', f s x = some s' ∧ forN f s' (xs.drop (i + 1)) = some e := by
  have hi : i < xs.length := (List.getElem?_eq_some_iff.mp hx).1
  have e1 : xs.drop i = x :: xs.drop (i + 1) := by
    rw [List.drop_eq_getElem_cons hi]
    congr 1
    exact (List.getElem?_eq_some_iff.mp hx).2
  rw [e1] at h
  exact bnd h
theorem forN_end {α σ : Type} {f : σ → α → Option σ} {s e : σ} {xs : List α} (h : forN f s (xs.drop xs.length) = some e) : s = e := by
  rw [List.drop_length] at h
  exact Option.some.inj h
theorem forR_go {α σ ρ : Type} {f : σ → α → Option (ρ ⊕ σ)} {s : σ} {e : ρ ⊕ σ} {xs : List α} {i : Nat} {x : α} (h : forR f s (xs.drop i) = some e) (hx : xs[i]? = some x) :
    ∃ o, f s x = some o ∧ ((∃ r, o = .inl r ∧ e = .inl r) ∨ ∃ s', o = .inr s' ∧ forR f s' (xs.drop (i + 1)) = some e) := by
  have hi : i < xs.length := (List.getElem?_eq_some_iff.mp hx).1
  have e1 : xs.drop i = x :: xs.drop (i + 1) := by
    rw [List.drop_eq_getElem_cons hi]
    congr 1
    exact (List.getElem?_eq_some_iff.mp hx).2
  rw [e1] at h
  obtain ⟨o, h1, h2⟩ := bnd h
  refine ⟨o, h1, ?_⟩
  cases o with
  | inl r => exact .inl ⟨r, rfl, (Option.some.inj h2).symm⟩
  | inr s' => exact .inr ⟨s', rfl, h2⟩
theorem forR_end {α σ ρ : Type} {f : σ → α → Option (ρ ⊕ σ)} {s : σ} {e : ρ ⊕ σ} {xs : List α} (h : forR f s (xs.drop xs.length) = some e) : e = .inr s := by
  rw [List.drop_length] at h
  exact (Option.some.inj h).symm
theorem forB_go {α σ : Type} {f : σ → α → Option (σ ⊕ σ)} {s e : σ} {xs : List α} {i : Nat} {x : α} (h : forB f s (xs.drop i) = some e) (hx : xs[i]? = some x) :
    ∃ o, f s x = some o ∧ ((o = .inl e) ∨ ∃ s', o = .inr s' ∧ forB f s' (xs.drop (i + 1)) = some e) := by
  have hi : i < xs.length := (List.getElem?_eq_some_iff.mp hx).1
  have e1 : xs.drop i = x :: xs.drop (i + 1) := by
    rw [List.drop_eq_getElem_cons hi]
    congr 1
    exact (List.getElem?_eq_some_iff.mp hx).2
  rw [e1] at h
  obtain ⟨o, h1, h2⟩ := bnd h
  refine ⟨o, h1, ?_⟩
  cases o with
  | inl r => exact .inl (by rw [Option.some.inj h2])
  | inr s' => exact .inr ⟨s', rfl, h2⟩
theorem forB_end {α σ : Type} {f : σ → α → Option (σ ⊕ σ)} {s e : σ} {xs : List α} (h : forB f s (xs.drop xs.length) = some e) : s = e := by
  rw [List.drop_length] at h
  exact Option.some.inj h
end Mi
namespace Mi
def orR {ρ σ : Type} (o : ρ ⊕ σ) (k : σ → Option ρ) : Option ρ := match o with
  | .inl r => some r
  | .inr s => k s
def orL {ρ σ τ : Type} (o : ρ ⊕ σ) (k : σ → Option (ρ ⊕ τ)) : Option (ρ ⊕ τ) := match o with
  | .inl r => some (.inl r)
  | .inr s => k s
theorem orR_inl {ρ σ : Type} {r q : ρ} {k : σ → Option ρ} (h : orR (.inl r) k = some q) : some r = some q := h
theorem orR_inr {ρ σ : Type} {s : σ} {q : ρ} {k : σ → Option ρ} (h : orR (.inr s) k = some q) : k s = some q := h
theorem orL_inl {ρ σ τ : Type} {r : ρ} {q : ρ ⊕ τ} {k : σ → Option (ρ ⊕ τ)} (h : orL (.inl r) k = some q) : some (.inl r) = some q := h
theorem orL_inr {ρ σ τ : Type} {s : σ} {q : ρ ⊕ τ} {k : σ → Option (ρ ⊕ τ)} (h : orL (.inr s) k = some q) : k s = some q := h
theorem or_inl {ρ σ : Type} {r : ρ} {e : ρ ⊕ σ} {P : σ → Prop} (h : (∃ r', (Sum.inl r : ρ ⊕ σ) = .inl r' ∧ e = .inl r') ∨ ∃ s', (Sum.inl r : ρ ⊕ σ) = .inr s' ∧ P s') : e = .inl r := by
  rcases h with ⟨r', h1, h2⟩ | ⟨s', h1, _⟩
  · cases h1; exact h2
  · cases h1
theorem or_inr {ρ σ : Type} {s : σ} {e : ρ ⊕ σ} {P : σ → Prop} (h : (∃ r', (Sum.inr s : ρ ⊕ σ) = .inl r' ∧ e = .inl r') ∨ ∃ s', (Sum.inr s : ρ ⊕ σ) = .inr s' ∧ P s') : P s := by
  rcases h with ⟨r', h1, h2⟩ | ⟨s', h1, h2⟩
  · cases h1
  · cases h1; exact h2
end Mi
namespace Mi
def shl (i j : Int) : Option Int := if 0 ≤ j ∧ j ≤ 1000 ∧ -(2 ^ 64) < i ∧ i < 2 ^ 64 then some (i * 2 ^ j.toNat) else none
def shr (i j : Int) : Option Int := if 0 ≤ j then some (i / 2 ^ j.toNat) else none
def sortI (xs : List Int) : List Int := xs.mergeSort fun a b => decide (a ≤ b)
def sadd (xs : List Int) (k : Int) : Option (List Int) := if xs.length < 4000 then some (if xs.contains k = true then xs else xs ++ [k]) else none
def popL {α : Type} (xs : List α) : Option (α × List α) := (xs[xs.length - 1]?).bind fun y => some (y, xs.dropLast)
def popAt {α : Type} (xs : List α) (i : Int) : Option (α × List α) := (ixN xs.length i).bind fun j => (xs[j]?).bind fun y => some (y, xs.eraseIdx j)
def lMin (xs : List Int) : Option Int := xs.head?.map fun x => xs.foldl min x
def lMax (xs : List Int) : Option Int := xs.head?.map fun x => xs.foldl max x
/-- enumerate -/
def enumF {α : Type} : Int → List α → List (Int × α)
  | _, [] => []
  | k, x :: xs => (k, x) :: enumF (k + 1) xs
end Mi
namespace Mi
/-! ### texts: lists of code points -/
def sLen (s : List Nat) : Option Int := if s.length ≤ big then some (s.length : Int) else none
def sAt (s : List Nat) (i : Int) : Option (List Nat) := if s.length ≤ big then (at_ s i).map fun c => [c] else none
def sCut (s : List Nat) (lo hi : Option Int) : Option (List Nat) := if s.length ≤ big then some (cut s lo hi) else none
def sCat (a b : List Nat) : Option (List Nat) := if a.length + b.length ≤ big then some (a ++ b) else none
def sIn (a s : List Nat) : Option Bool := match a with
  | [c] => some (s.contains c)
  | _ => none
def joinL (sep : List Nat) : List (List Nat) → List Nat
  | [] => []
  | [p] => p
  | p :: q :: r => p ++ (sep ++ joinL sep (q :: r))
def sJoin (sep : List Nat) (xs : List (List Nat)) : Option (List Nat) := if (xs.map (·.length)).sum + xs.length * sep.length ≤ big then some (joinL sep xs) else none
def signs (s : List Nat) : List (List Nat) := s.map fun c => [c]
def okS (s : List Nat) : Bool := s.all fun c => decide (c < 1114112)
def bI (b : Bool) : Int := if b = true then 1 else 0
end Mi
namespace Mi
/-- xs[i].append(x) -/
def appIn {α : Type} (xs : List (List α)) (i : Int) (x : α) : Option (List (List α)) := (ixN xs.length i).bind fun j => (xs[j]?).bind fun row => (app row x).bind fun ys => some (xs.set j ys)
def leP (a b : Int × Int) : Bool := decide (a.1 < b.1 ∨ (a.1 = b.1 ∧ a.2 ≤ b.2))
def sortP (xs : List (Int × Int)) : List (Int × Int) := xs.mergeSort leP
def saddP (xs : List (Int × Int)) (k : Int × Int) : Option (List (Int × Int)) := if xs.length < 70 then some (if xs.contains k = true then xs else xs ++ [k]) else none
def repL {α : Type} (xs : List α) (k : Int) : Option (List α) := if -(2 ^ 60) ≤ k ∧ k < 2 ^ 60 ∧ xs.length * k.toNat ≤ big then some (List.replicate k.toNat xs).flatten else none
def lIdx {α : Type} [BEq α] (xs : List α) (x : α) : Option Int := if xs.contains x = true then some ((xs.idxOf x : Nat) : Int) else none
def rngL (lo hi : Int) : Option (List Int) := if (-(2 ^ 60) ≤ lo ∧ lo < 2 ^ 60) ∧ (-(2 ^ 60) ≤ hi ∧ hi < 2 ^ 60) ∧ (hi - lo).toNat ≤ 1000000 then some (rng lo hi) else none
end Mi

namespace Mi
def m_is_zone_0_b1 (d1 : Int) (s9 : (List Int)) (x12 : Int) : Option (Bool ⊕ (List Int)) :=
  if ((decide (x12 < (0 : Int))) || ((decide (d1 ≤ x12)) || (s9.contains x12))) = true then
  (some (.inl false))
  else
  (sadd s9 x12).bind fun x19 =>
  some (.inr x19)
def m_is_zone_0 (d0 : (List Int)) (d1 : Int) : Option Bool :=
  (forR (m_is_zone_0_b1 d1) ([] : List Int) d0).bind fun e8 => orR e8 fun s9 =>
  some true
def m_is_zone_1_b1 (d1 : Int) (s8 : (List Int)) (x11 : Int) : Option (Bool ⊕ (List Int)) :=
  if ((decide (x11 < (0 : Int))) || ((decide (d1 ≤ x11)) || (s8.contains x11))) = true then
  (some (.inl false))
  else
  (sadd s8 x11).bind fun x18 =>
  some (.inr x18)
def m_is_zone_1 (d0 : (List Int)) (d1 : Int) : Option Bool :=
  (forR (m_is_zone_1_b1 d1) ([] : List Int) d0).bind fun e7 => orR e7 fun s8 =>
  some true
def m_good_numbers_0_b1 (d2 : Int) (s3 : Unit) (x6 : Int) : Option (Bool ⊕ Unit) :=
  if ((decide (x6 < (0 : Int))) || (decide (d2 < x6))) = true then
  (some (.inl false))
  else
  some (.inr ())
def m_good_numbers_0 (d0 : (List Int)) (d1 : Int) (d2 : Int) : Option Bool :=
  if ((decide ((d0.length : Int) < (1 : Int))) || (decide (d1 < (d0.length : Int)))) = true then
  (some false)
  else
  (forR (m_good_numbers_0_b1 d2) () d0).bind fun e2 => orR e2 fun s3 =>
  some true
def m_good_numbers_1_b1 (d2 : Int) (s3 : Unit) (x6 : Int) : Option (Bool ⊕ Unit) :=
  if ((decide (x6 < (0 : Int))) || (decide (d2 < x6))) = true then
  (some (.inl false))
  else
  some (.inr ())
def m_good_numbers_1 (d0 : (List Int)) (d1 : Int) (d2 : Int) : Option Bool :=
  if ((decide ((d0.length : Int) < (1 : Int))) || (decide (d1 < (d0.length : Int)))) = true then
  (some false)
  else
  (forR (m_good_numbers_1_b1 d2) () d0).bind fun e2 => orR e2 fun s3 =>
  some true
def m_good_depths_0 (d0 : (List Int)) : Option Bool :=
  (m_good_numbers_0 d0 (12 : Int) (99 : Int)).bind fun q1 =>
  some q1
def m_good_depths_1 (d0 : (List Int)) : Option Bool :=
  (m_good_numbers_1 d0 (12 : Int) (99 : Int)).bind fun q1 =>
  some q1
def m_good_lanes_0_b1 (d1 : Int) (s9 : (List (Int × Int))) (x15 : (Int × Int)) : Option (Bool ⊕ (List (Int × Int))) :=
  pyLet ((min x15.1 x15.2) : Int) fun low24 =>
  pyLet ((max x15.1 x15.2) : Int) fun high25 =>
  ( if (decide (low24 < (0 : Int))) = true then some true else  if (decide (d1 ≤ high25)) = true then some true else  if (decide (low24 = high25)) = true then some true else some (s9.contains (low24, high25)) : Option Bool).bind fun b26 =>
  if b26 = true then
  (some (.inl false))
  else
  (saddP s9 (low24, high25)).bind fun x37 =>
  some (.inr x37)
def m_good_lanes_0 (d0 : (List (Int × Int))) (d1 : Int) : Option Bool :=
  (forR (m_good_lanes_0_b1 d1) ([] : List (Int × Int)) d0).bind fun e8 => orR e8 fun s9 =>
  some true
def m_good_lanes_1_b1 (d1 : Int) (s8 : (List (Int × Int))) (x14 : (Int × Int)) : Option (Bool ⊕ (List (Int × Int))) :=
  pyLet ((min x14.1 x14.2) : Int) fun low23 =>
  pyLet ((max x14.1 x14.2) : Int) fun high24 =>
  ( if (decide (low23 < (0 : Int))) = true then some true else  if (decide (d1 ≤ high24)) = true then some true else  if (decide (low23 = high24)) = true then some true else some (s8.contains (low23, high24)) : Option Bool).bind fun b25 =>
  if b25 = true then
  (some (.inl false))
  else
  (saddP s8 (low23, high24)).bind fun x36 =>
  some (.inr x36)
def m_good_lanes_1 (d0 : (List (Int × Int))) (d1 : Int) : Option Bool :=
  (forR (m_good_lanes_1_b1 d1) ([] : List (Int × Int)) d0).bind fun e7 => orR e7 fun s8 =>
  some true
def m_good_tide_0 (d0 : (List Int)) : Option Bool :=
  (m_good_numbers_0 d0 (12 : Int) (20 : Int)).bind fun q1 =>
  some q1
def m_good_tide_1 (d0 : (List Int)) : Option Bool :=
  (m_good_numbers_1 d0 (12 : Int) (20 : Int)).bind fun q1 =>
  some q1
def m_good_harbours_0 (d0 : (List Int)) (d1 : Int) : Option Bool :=
  (m_is_zone_0 d0 d1).bind fun q1 =>
  some q1
def m_good_harbours_1 (d0 : (List Int)) (d1 : Int) : Option Bool :=
  (m_is_zone_1 d0 d1).bind fun q1 =>
  some q1
def m_ordered_lanes_0_b1  (s2 : (List (Int × Int))) (x11 : (Int × Int)) : Option (List (Int × Int)) :=
  (app s2 ((min x11.1 x11.2), (max x11.1 x11.2))).bind fun x27 =>
  some x27
def m_ordered_lanes_0 (d0 : (List (Int × Int))) : Option (List (Int × Int)) :=
  (forN (m_ordered_lanes_0_b1) ([] : (List (Int × Int))) d0).bind fun s2 =>
  some (Mi.sortP s2)
def m_ordered_lanes_1_b1  (s2 : (List (Int × Int))) (x10 : (Int × Int)) : Option (List (Int × Int)) :=
  (app s2 ((min x10.1 x10.2), (max x10.1 x10.2))).bind fun x26 =>
  some x26
def m_ordered_lanes_1 (d0 : (List (Int × Int))) : Option (List (Int × Int)) :=
  (forN (m_ordered_lanes_1_b1) ([] : (List (Int × Int))) d0).bind fun s2 =>
  some (Mi.sortP s2)
def m_joined_places_b1  (s3 : (List (List Int))) (x12 : Int) : Option (List (List Int)) :=
  (app s3 ([] : (List Int))).bind fun x26 =>
  some x26
def m_joined_places_b2  (s36 : (List (List Int))) (x44 : (Int × Int)) : Option (List (List Int)) :=
  (at_ s36 x44.1).bind fun x52 =>
  (appIn s36 x44.1 x44.2).bind fun x53 =>
  (at_ x53 x44.2).bind fun x61 =>
  (appIn x53 x44.2 x44.1).bind fun x62 =>
  some x62
def m_joined_places_b3  (s71 : (List (List Int))) (x80 : (List Int)) : Option (List (List Int)) :=
  (app s71 x80).bind fun x93 =>
  some x93
def m_joined_places (d0 : Int) (d1 : (List (Int × Int))) : Option (List (List Int)) :=
  (rngO 0 d0).bind fun g1 =>
  (forN (m_joined_places_b1) ([] : (List (List Int))) g1).bind fun s3 =>
  (forN (m_joined_places_b2) s3 d1).bind fun s36 =>
  (forN (m_joined_places_b3) ([] : (List (List Int))) s36).bind fun s71 =>
  some s71
def m_Chart_init_0 (d1 : (List Int)) (d2 : (List (Int × Int))) (d3 : (List Int)) (d4 : (List Int)) : Option (Int × (List Int) × (List (Int × Int)) × (List Int) × (List Int) × (List (List Int))) :=
  (m_good_depths_0 d1).bind fun q1 =>
  if (!q1) = true then
  (none)
  else
  (m_good_lanes_0 d2 (d1.length : Int)).bind fun q4 =>
  if (!q4) = true then
  (none)
  else
  (m_good_tide_0 d3).bind fun q7 =>
  if (!q7) = true then
  (none)
  else
  (m_good_harbours_0 d4 (d1.length : Int)).bind fun q10 =>
  if (!q10) = true then
  (none)
  else
  (m_ordered_lanes_0 d2).bind fun q21 =>
  (m_joined_places (d1.length : Int) q21).bind fun q51 =>
  some ((d1.length : Int), d1, q21, d3, (Mi.sortI d4), q51)
def m_Chart_init_1 (d1 : (List Int)) (d2 : (List (Int × Int))) (d3 : (List Int)) (d4 : (List Int)) : Option (Int × (List Int) × (List (Int × Int)) × (List Int) × (List Int) × (List (List Int))) :=
  (m_good_depths_1 d1).bind fun q1 =>
  if (!q1) = true then
  (none)
  else
  (m_good_lanes_1 d2 (d1.length : Int)).bind fun q4 =>
  if (!q4) = true then
  (none)
  else
  (m_good_tide_1 d3).bind fun q7 =>
  if (!q7) = true then
  (none)
  else
  (m_good_harbours_1 d4 (d1.length : Int)).bind fun q10 =>
  if (!q10) = true then
  (none)
  else
  (m_ordered_lanes_1 d2).bind fun q21 =>
  (m_joined_places (d1.length : Int) q21).bind fun q47 =>
  some ((d1.length : Int), d1, q21, d3, (Mi.sortI d4), q47)
def m_Chart_neighbours (d0 : (Int × (List Int) × (List (Int × Int)) × (List Int) × (List Int) × (List (List Int)))) (d1 : Int) : Option (List Int) :=
  (at_ d0.2.2.2.2.2 d1).bind fun x5 =>
  some x5
def m_Chart_is_harbour (d0 : (Int × (List Int) × (List (Int × Int)) × (List Int) × (List Int) × (List (List Int)))) (d1 : Int) : Option Bool :=
  some (d0.2.2.2.2.1.contains d1)
def m_l_hand (d0 : (List Int)) (d1 : Int) : Option (List Int) :=
  pyLet ((0 : Int) : Int) fun cell1 =>
  (if (decide (d1 < (d0.length : Int))) = true then ((at_ d0 d1).bind fun x3 =>
  pyLet (x3 : Int) fun cell4 =>
  some cell4) else (some cell1) : Option Int).bind fun s2 =>
  (if (decide (s2 < (0 : Int))) = true then (pyLet (((1 : Int) - ((2 : Int) * s2)) : Int) fun cell6 =>
  some cell6) else (some s2) : Option Int).bind fun s5 =>
  pyLet ((0 : Int) : Int) fun rest7 =>
  (if (decide (((10 : Int) ^ 18) ≤ s5)) = true then (pyLet (s5 : Int) fun rest9 =>
  some rest9) else (some rest7) : Option Int).bind fun s8 =>
  some [s8, (((s5 + ((7919 : Int) * d1)) + (13 : Int)) % (2147483647 : Int)), (0 : Int)]
def m_l_pick (d0 : (List Int)) (d1 : Int) : Option (Int × (List Int)) :=
  if (decide (d1 < (1 : Int))) = true then
  (some ((0 : Int), d0))
  else
  (at_ d0 (0 : Int)).bind fun x1 =>
  if (decide ((0 : Int) < x1)) = true then
  ((at_ d0 (0 : Int)).bind fun x2 =>
  (mod x2 d1).bind fun x3 =>
  pyLet (x3 : Int) fun digit4 =>
  (at_ d0 (0 : Int)).bind fun x5 =>
  (fdiv x5 d1).bind fun x6 =>
  (setAt d0 (0 : Int) x6).bind fun x7 =>
  some (digit4, x7))
  else
  (at_ d0 (2 : Int)).bind fun x10 =>
  (setAt d0 (2 : Int) (x10 + (1 : Int))).bind fun x11 =>
  (at_ x11 (1 : Int)).bind fun x14 =>
  (at_ x11 (2 : Int)).bind fun x15 =>
  pyLet ((((x14 + ((7919 : Int) * x15)) + (13 : Int)) % (2147483647 : Int)) : Int) fun mixed16 =>
  (mul mixed16 (mixed16 + (48271 : Int))).bind fun x17 =>
  pyLet ((x17 % (2147483629 : Int)) : Int) fun mixed18 =>
  (mul mixed18 (mixed18 + (69621 : Int))).bind fun x19 =>
  (at_ x11 (2 : Int)).bind fun x20 =>
  pyLet (((x19 + ((31 : Int) * x20)) % (2147483647 : Int)) : Int) fun mixed21 =>
  (mod (mixed21 / (9 : Int)) d1).bind fun x22 =>
  some (x22, x11)
def m_l_int_0 (d0 : Int) : Option Bool :=
  some (true && (!false))
def m_l_int_1 (d0 : (Option Int)) : Option Bool :=
  some ((d0.isSome && true) && (!(d0.isSome && false)))
def m_l_some_b1 (d2 : Int) (s10 : ((List Int) × (List Int))) (x13 : Int) : Option ((List Int) × (List Int)) :=
  ((m_l_pick s10.1 d2).bind fun q16 =>
  if (decide (q16.1 = (0 : Int))) = true then ((app s10.2 x13).bind fun x19 =>
  some (q16.2, x19)) else (some (q16.2, s10.2)) : Option ((List Int) × (List Int))).bind fun s15 =>
  some (s15.1, s15.2)
def m_l_some (d0 : (List Int)) (d1 : Int) (d2 : Int) : Option ((List Int) × (List Int)) :=
  (rngO 0 d1).bind fun g8 =>
  (forN (m_l_some_b1 d2) (d0, ([] : (List Int))) g8).bind fun s10 =>
  some (s10.2, s10.1)
def m_l_sea_b2 (x52 : Int) (s62 : ((List Int) × (List (Int × Int)))) (x65 : Int) : Option ((List Int) × (List (Int × Int))) :=
  ((m_l_pick s62.1 (4 : Int)).bind fun q68 =>
  if (decide ((0 : Int) < q68.1)) = true then ((app s62.2 (x65, x52)).bind fun x76 =>
  some (q68.2, x76)) else (some (q68.2, s62.2)) : Option ((List Int) × (List (Int × Int)))).bind fun s67 =>
  some (s67.1, s67.2)
def m_l_sea_b1 (x15 : Int) (s48 : ((List Int) × (List Int) × (List (Int × Int)))) (x52 : Int) : Option ((List Int) × (List Int) × (List (Int × Int))) :=
  (m_l_pick s48.1 x15).bind fun q54 =>
  (app s48.2.1 q54.1).bind fun x57 =>
  (rngO 0 x52).bind fun g60 =>
  (forN (m_l_sea_b2 x52) (q54.2, s48.2.2) g60).bind fun s62 =>
  some (s62.1, x57, s62.2)
def m_l_sea_b3 (x28 : Int) (s93 : ((List Int) × (List Int))) (x96 : Int) : Option ((List Int) × (List Int)) :=
  (m_l_pick s93.1 x28).bind fun q98 =>
  (app s93.2 q98.1).bind fun x101 =>
  some (q98.2, x101)
def m_l_sea (d0 : (List Int)) (d1 : Int) : Option (((List Int) × (List (Int × Int)) × (List Int) × (List Int)) × (List Int)) :=
  (m_l_pick d0 d1).bind fun q1 =>
  pyLet (((1 : Int) + q1.1) : Int) fun size4 =>
  (m_l_pick q1.2 (3 : Int)).bind fun q12 =>
  (at_ [(2 : Int), (6 : Int), (100 : Int)] q12.1).bind fun x15 =>
  (m_l_pick q12.2 (3 : Int)).bind fun q25 =>
  (at_ [(1 : Int), (4 : Int), (21 : Int)] q25.1).bind fun x28 =>
  (rngO 0 size4).bind fun g46 =>
  (forN (m_l_sea_b1 x15) (q25.2, ([] : (List Int)), ([] : (List (Int × Int)))) g46).bind fun s48 =>
  (m_l_pick s48.1 (3 : Int)).bind fun q88 =>
  (rngO 0 q88.1).bind fun g91 =>
  (forN (m_l_sea_b3 x28) (q88.2, [(0 : Int)]) g91).bind fun s93 =>
  (m_l_some s93.1 size4 (4 : Int)).bind fun q104 =>
  some ((s48.2.1, s48.2.2, s93.2, q104.1), q104.2)
def m_l_wide (d0 : (List Int)) : Option (((List Int) × (List (Int × Int)) × (List Int) × (List Int)) × (List Int)) :=
  (m_l_pick d0 (8 : Int)).bind fun q8 =>
  (at_ [(6 : Int), (6 : Int), (6 : Int), (6 : Int), (6 : Int), (6 : Int), (6 : Int), (12 : Int)] q8.1).bind fun x11 =>
  (m_l_sea q8.2 x11).bind fun q14 =>
  some (q14.1, q14.2)
def m_l_flows_b1  (s9 : ((List Int) × (List Int))) (x19 : Int) : Option ((List Int) × (List Int)) :=
  (m_l_pick s9.2 (21 : Int)).bind fun q26 =>
  (app s9.1 q26.1).bind fun x29 =>
  some (x29, q26.2)
def m_l_flows (d0 : (List Int)) (d1 : ((List Int) × (List (Int × Int)) × (List Int) × (List Int))) : Option ((List Int) × (List Int)) :=
  (m_l_pick d0 (8 : Int)).bind fun q1 =>
  if (decide (q1.1 = (0 : Int))) = true then
  ((m_l_pick q1.2 (12 : Int)).bind fun q4 =>
  (rngO 0 ((1 : Int) + q4.1)).bind fun g7 =>
  (forN (m_l_flows_b1) (([] : (List Int)), q4.2) g7).bind fun s9 =>
  some (s9.1, s9.2))
  else
  (cat (Mi.cut d1.2.2.1 (some (1 : Int)) none) (Mi.cut d1.2.2.1 none (some (1 : Int)))).bind fun x66 =>
  some (x66, q1.2)
def m_l_thinned_b1 (share4 : Int) (s6 : ((List (Int × Int)) × (List Int))) (x16 : (Int × Int)) : Option ((List (Int × Int)) × (List Int)) :=
  (m_l_pick s6.2 share4).bind fun q23 =>
  if (decide (q23.1 = (0 : Int))) = true then ((app s6.1 x16).bind fun x26 =>
  some (x26, q23.2)) else (some (s6.1, q23.2))
def m_l_thinned (d0 : (List Int)) (d1 : (List (Int × Int))) (d2 : Int) : Option ((List (Int × Int)) × (List Int)) :=
  (m_l_pick d0 d2).bind fun q1 =>
  pyLet (((1 : Int) + q1.1) : Int) fun share4 =>
  (forN (m_l_thinned_b1 share4) (([] : (List (Int × Int))), q1.2) d1).bind fun s6 =>
  some (s6.1, s6.2)
def m_l_flipped_b1  (s10 : ((List Int) × (List (Int × Int)))) (x13 : (Int × Int)) : Option ((List Int) × (List (Int × Int))) :=
  ((m_l_pick s10.1 (2 : Int)).bind fun q18 =>
  if (decide (q18.1 = (0 : Int))) = true then ((app s10.2 x13).bind fun x21 =>
  some (q18.2, x21)) else ((app s10.2 (x13.2, x13.1)).bind fun x41 =>
  some (q18.2, x41)) : Option ((List Int) × (List (Int × Int)))).bind fun s17 =>
  some (s17.1, s17.2)
def m_l_flipped (d0 : (List Int)) (d1 : (List (Int × Int))) : Option ((List (Int × Int)) × (List Int)) :=
  (forN (m_l_flipped_b1) (d0, ([] : (List (Int × Int)))) d1).bind fun s10 =>
  some (s10.2, s10.1)
def m_l_stirred_0_b1  (s20 : ((List Int) × (List Int) × (List Int))) (x23 : Int) : Option ((List Int) × (List Int) × (List Int)) :=
  (m_l_pick s20.1 (s20.2.1.length : Int)).bind fun q25 =>
  (guardO (decide (s20.2.1.length ≤ big))).bind fun z28 =>
  (popAt s20.2.1 q25.1).bind fun x29 =>
  (app s20.2.2 x29.1).bind fun x34 =>
  some (q25.2, x29.2, x34)
def m_l_stirred_0 (d0 : (List Int)) (d1 : (List Int)) : Option ((List Int) × (List Int)) :=
  (rngO 0 (d1.length : Int)).bind fun g18 =>
  (forN (m_l_stirred_0_b1) (d0, d1, ([] : (List Int))) g18).bind fun s20 =>
  some (s20.2.2, s20.1)
def m_l_stirred_1_b1  (s20 : ((List Int) × (List (Int × Int)) × (List (Int × Int)))) (x23 : Int) : Option ((List Int) × (List (Int × Int)) × (List (Int × Int))) :=
  (m_l_pick s20.1 (s20.2.1.length : Int)).bind fun q25 =>
  (guardO (decide (s20.2.1.length ≤ big))).bind fun z28 =>
  (popAt s20.2.1 q25.1).bind fun x29 =>
  (app s20.2.2 x29.1).bind fun x34 =>
  some (q25.2, x29.2, x34)
def m_l_stirred_1 (d0 : (List Int)) (d1 : (List (Int × Int))) : Option ((List (Int × Int)) × (List Int)) :=
  (rngO 0 (d1.length : Int)).bind fun g18 =>
  (forN (m_l_stirred_1_b1) (d0, d1, ([] : (List (Int × Int)))) g18).bind fun s20 =>
  some (s20.2.2, s20.1)
def m_l_row_0_b1 (d0 : (List Int)) (d1 : (List Int)) (s4 : Unit) (x7 : Int) : Option (Bool ⊕ Unit) :=
  ((at_ d0 x7).bind fun x11 => (m_l_int_0 x11).bind fun q12 => if (!q12) = true then some true else (at_ d0 x7).bind fun x15 => (at_ d1 x7).bind fun x16 => some (!(decide (x15 = x16))) : Option Bool).bind fun b10 =>
  if b10 = true then
  (some (.inl false))
  else
  some (.inr ())
def m_l_row_0 (d0 : (List Int)) (d1 : (List Int)) : Option Bool :=
  if ((!true) || (!(decide ((d0.length : Int) = (d1.length : Int))))) = true then
  (some false)
  else
  (rngO 0 (d1.length : Int)).bind fun g2 =>
  (forR (m_l_row_0_b1 d0 d1) () g2).bind fun e3 => orR e3 fun s4 =>
  some true
def m_l_row_1_b1 (d0 : (List Int)) (d1 : (List Int)) (s4 : Unit) (x7 : Int) : Option (Bool ⊕ Unit) :=
  ((at_ d0 x7).bind fun x11 => (m_l_int_0 x11).bind fun q12 => if (!q12) = true then some true else (at_ d0 x7).bind fun x15 => (at_ d1 x7).bind fun x16 => some (!(decide (x15 = x16))) : Option Bool).bind fun b10 =>
  if b10 = true then
  (some (.inl false))
  else
  some (.inr ())
def m_l_row_1 (d0 : (List Int)) (d1 : (List Int)) : Option Bool :=
  if ((!true) || (!(decide ((d0.length : Int) = (d1.length : Int))))) = true then
  (some false)
  else
  (rngO 0 (d1.length : Int)).bind fun g2 =>
  (forR (m_l_row_1_b1 d0 d1) () g2).bind fun e3 => orR e3 fun s4 =>
  some true
def m_l_ordered_b2 (d0 : (List (Int × Int))) (x14 : Int) (s18 : (List (Int × Int))) (x21 : Int) : Option (List (Int × Int)) :=
  (if (d0.contains (x14, x21)) = true then ((app s18 (x14, x21)).bind fun x34 =>
  some x34) else (some s18) : Option (List (Int × Int))).bind fun s23 =>
  some s23
def m_l_ordered_b1 (d0 : (List (Int × Int))) (d1 : Int) (s10 : (List (Int × Int))) (x14 : Int) : Option (List (Int × Int)) :=
  (rngO 0 d1).bind fun g16 =>
  (forN (m_l_ordered_b2 d0 x14) s10 g16).bind fun s18 =>
  some s18
def m_l_ordered (d0 : (List (Int × Int))) (d1 : Int) : Option (List (Int × Int)) :=
  (rngO 0 d1).bind fun g8 =>
  (forN (m_l_ordered_b1 d0 d1) ([] : (List (Int × Int))) g8).bind fun s10 =>
  some s10
def m_l_parts_b1 (d1 : ((List Int) × (List (Int × Int)) × (List Int) × (List Int))) (s53 : (List Int)) (x62 : Int) : Option (List Int) :=
  if (d1.2.2.2.contains x62) = true then ((app s53 x62).bind fun x76 =>
  some x76) else (some s53)
def m_l_parts_b2 (d0 : (Int × (List Int) × (List (Int × Int)) × (List Int) × (List Int) × (List (List Int)))) (q88 : (List (Int × Int))) (s108 : Unit) (x111 : Int) : Option (Bool ⊕ Unit) :=
  (at_ d0.2.2.1 x111).bind fun x118 =>
  (at_ q88 x111).bind fun x122 =>
  (m_l_row_1 [x118.1, x118.2] [x122.1, x122.2]).bind fun q126 =>
  if (!q126) = true then
  (some (.inl false))
  else
  some (.inr ())
def m_l_parts (d0 : (Int × (List Int) × (List (Int × Int)) × (List Int) × (List Int) × (List (List Int)))) (d1 : ((List Int) × (List (Int × Int)) × (List Int) × (List Int))) : Option Bool :=
  pyLet ((d1.1.length : Int) : Int) fun size7 =>
  ((m_l_int_0 d0.1).bind fun q13 => if (!q13) = true then some true else some (!(decide (d0.1 = size7))) : Option Bool).bind fun b8 =>
  if b8 = true then
  (some false)
  else
  ((m_l_row_0 d0.2.1 d1.1).bind fun q31 => if (!q31) = true then some true else (m_l_row_0 d0.2.2.2.1 d1.2.2.1).bind fun q44 => some (!q44) : Option Bool).bind fun b20 =>
  if b20 = true then
  (some false)
  else
  (rngO 0 size7).bind fun g51 =>
  (forN (m_l_parts_b1 d1) ([] : (List Int)) g51).bind fun s53 =>
  (m_l_row_0 d0.2.2.2.2.1 s53).bind fun q79 =>
  if (!q79) = true then
  (some false)
  else
  (m_l_ordered d1.2.1 size7).bind fun q88 =>
  if ((!true) || (!(decide ((d0.2.2.1.length : Int) = (q88.length : Int))))) = true then
  (some false)
  else
  (rngO 0 (q88.length : Int)).bind fun g106 =>
  (forR (m_l_parts_b2 d0 q88) () g106).bind fun e107 => orR e107 fun s108 =>
  some true
def m_l_beside_b1 (d0 : ((List Int) × (List (Int × Int)) × (List Int) × (List Int))) (d1 : Int) (s9 : (List Int)) (x18 : Int) : Option (List Int) :=
  ( if (d0.2.1.contains (d1, x18)) = true then some true else some (d0.2.1.contains (x18, d1)) : Option Bool).bind fun b25 =>
  if b25 = true then ((app s9 x18).bind fun x50 =>
  some x50) else (some s9)
def m_l_beside (d0 : ((List Int) × (List (Int × Int)) × (List Int) × (List Int))) (d1 : Int) : Option (List Int) :=
  (rngO 0 (d0.1.length : Int)).bind fun g7 =>
  (forN (m_l_beside_b1 d0 d1) ([] : (List Int)) g7).bind fun s9 =>
  some s9
def m_l_around_b1 (d0 : (Int × (List Int) × (List (Int × Int)) × (List Int) × (List Int) × (List (List Int)))) (d1 : ((List Int) × (List (Int × Int)) × (List Int) × (List Int))) (s9 : Unit) (x16 : Int) : Option (Bool ⊕ Unit) :=
  (m_l_beside d1 x16).bind fun q19 =>
  (m_Chart_neighbours d0 x16).bind fun q28 =>
  (m_Chart_neighbours d0 x16).bind fun q38 =>
  ( if (!true) = true then some true else (m_l_row_0 q28 q19).bind fun q54 => some (!q54) : Option Bool).bind fun b49 =>
  if b49 = true then
  (some (.inl false))
  else
  (app q28 (99 : Int)).bind fun x57 =>
  ( if (!true) = true then some true else (m_l_row_0 q38 q19).bind fun q65 => some (!q65) : Option Bool).bind fun b60 =>
  if b60 = true then
  (some (.inl false))
  else
  (m_Chart_neighbours d0 x16).bind fun q70 =>
  ( if (!true) = true then some true else (m_l_row_0 q70 q19).bind fun q87 => some (!q87) : Option Bool).bind fun b82 =>
  if b82 = true then
  (some (.inl false))
  else
  (m_Chart_is_harbour d0 x16).bind fun q90 =>
  if ((!true) || (!(decide (q90 = (d1.2.2.2.contains x16))))) = true then
  (some (.inl false))
  else
  some (.inr ())
def m_l_around (d0 : (Int × (List Int) × (List (Int × Int)) × (List Int) × (List Int) × (List (List Int)))) (d1 : ((List Int) × (List (Int × Int)) × (List Int) × (List Int))) : Option Bool :=
  (rngO 0 (d1.1.length : Int)).bind fun g7 =>
  (forR (m_l_around_b1 d0 d1) () g7).bind fun e8 => orR e8 fun s9 =>
  some true
def m_law (d0 : (List Int)) : Option Bool :=
  (m_l_hand d0 (0 : Int)).bind fun q1 =>
  (m_l_wide q1).bind fun q9 =>
  (m_l_hand d0 (1 : Int)).bind fun q17 =>
  (m_l_wide q17).bind fun q26 =>
  (m_l_hand d0 (2 : Int)).bind fun q35 =>
  (m_l_flows q35 q9.1).bind fun q45 =>
  (m_l_hand d0 (7 : Int)).bind fun q55 =>
  (m_l_thinned q55 q9.1.2.1 (4 : Int)).bind fun q86 =>
  (m_l_flipped q86.2 (q9.1.1, q86.1, q45.1, q9.1.2.2.2).2.1).bind fun q126 =>
  (m_l_stirred_1 q126.2 q126.1).bind fun q139 =>
  (m_l_stirred_0 q139.2 (q9.1.1, q86.1, q45.1, q9.1.2.2.2).2.2.2).bind fun q162 =>
  (m_Chart_init_0 (q9.1.1, q86.1, q45.1, q9.1.2.2.2).1 q139.1 (q9.1.1, q86.1, q45.1, q9.1.2.2.2).2.2.1 q162.1).bind fun q282 =>
  (m_Chart_init_1 (q26.1.1, q26.1.2.1, q26.1.2.2.1, ([] : (List Int))).1 (q26.1.1, q26.1.2.1, q26.1.2.2.1, ([] : (List Int))).2.1 (q26.1.1, q26.1.2.1, q26.1.2.2.1, ([] : (List Int))).2.2.1 ([] : List Int)).bind fun q437 =>
  ((m_l_parts q282 (q9.1.1, q86.1, q45.1, q9.1.2.2.2)).bind fun q442 => if (!q442) = true then some true else (m_l_parts q437 (q26.1.1, q26.1.2.1, q26.1.2.2.1, ([] : (List Int)))).bind fun q445 => some (!q445) : Option Bool).bind fun b441 =>
  if b441 = true then
  (some false)
  else
  ((m_l_around q282 (q9.1.1, q86.1, q45.1, q9.1.2.2.2)).bind fun q449 => if (!q449) = true then some true else (m_l_around q437 (q26.1.1, q26.1.2.1, q26.1.2.2.1, ([] : (List Int)))).bind fun q452 => some (!q452) : Option Bool).bind fun b448 =>
  if b448 = true then
  (some false)
  else
  ( if (!(decide (q139.1 = q139.1))) = true then some true else some (!(decide (q162.1 = q162.1))) : Option Bool).bind fun b455 =>
  if b455 = true then
  (some false)
  else
  ((m_l_around q282 (q9.1.1, q86.1, q45.1, q9.1.2.2.2)).bind fun q461 => if q461 = true then (m_l_parts q282 (q9.1.1, q86.1, q45.1, q9.1.2.2.2)).bind fun q464 => if q464 = true then (m_l_around q437 (q26.1.1, q26.1.2.1, q26.1.2.2.1, ([] : (List Int)))).bind fun q467 => some q467 else some false else some false : Option Bool).bind fun b460 =>
  some b460
end Mi

namespace Mi
/-! ### draws -/
def Hd (h : List Int) : Prop := ∃ a b c : Int, h = [a, b, c] ∧ 0 ≤ a
theorem mod_ok {i j : Int} (h : 0 < j) : mod i j = some (i % j) := if_pos h
theorem fdiv_ok {i j : Int} (h : 0 < j) (h2 : j < 2 ^ 200) : fdiv i j = some (i / j) := if_pos ⟨h, h2⟩
theorem mul_okL {i j : Int} (h : -(2 ^ 64) < i) (h2 : i < 2 ^ 64) : mul i j = some (i * j) := if_pos (.inl ⟨h, h2⟩)
theorem mul_okR {i j : Int} (h : -(2 ^ 64) < j) (h2 : j < 2 ^ 64) : mul i j = some (i * j) := if_pos (.inr ⟨h, h2⟩)
theorem app_ok {α : Type} {xs : List α} {x : α} (h : xs.length < big) : app xs x = some (xs ++ [x]) := if_pos h
theorem cat_ok {α : Type} {xs ys : List α} (h : xs.length + ys.length ≤ big) : cat xs ys = some (xs ++ ys) := if_pos h
theorem rngO_ok {lo hi : Int} (h1 : -(2 ^ 60) ≤ lo) (h2 : lo < 2 ^ 60) (h3 : -(2 ^ 60) ≤ hi) (h4 : hi < 2 ^ 60) : rngO lo hi = some (rng lo hi) := if_pos ⟨⟨h1, h2⟩, h3, h4⟩
theorem rngDownO_ok {lo hi : Int} (h1 : -(2 ^ 60) ≤ lo) (h2 : lo < 2 ^ 60) (h3 : -(2 ^ 60) ≤ hi) (h4 : hi < 2 ^ 60) : rngDownO lo hi = some (rngDown lo hi) := if_pos ⟨⟨h1, h2⟩, h3, h4⟩
theorem at0 {α : Type} (a : α) (l : List α) : at_ (a :: l) 0 = some a := by
  unfold at_ ixN
  rw [if_pos (by decide), if_pos (by rw [List.length_cons]; omega)]
  rfl
theorem at_nat {α : Type} {xs : List α} {j : Nat} {x : α} (h : xs[j]? = some x) : at_ xs (j : Int) = some x := by
  have hj : j < xs.length := (List.getElem?_eq_some_iff.mp h).1
  unfold at_ ixN
  rw [if_pos (by omega), if_pos (by omega), Int.toNat_natCast]
  exact h
theorem at_int {α : Type} {xs : List α} {i : Int} {x : α} (h0 : 0 ≤ i) (h : xs[i.toNat]? = some x) : at_ xs i = some x := by
  have e : i = (i.toNat : Int) := by omega
  rw [e]; exact at_nat h
theorem at_some {α : Type} {xs : List α} {i : Int} (h0 : 0 ≤ i) (h1 : i < xs.length) : ∃ x, at_ xs i = some x ∧ xs[i.toNat]? = some x := by
  have hj : i.toNat < xs.length := by omega
  exact ⟨xs[i.toNat], at_int h0 (List.getElem?_eq_getElem hj), List.getElem?_eq_getElem hj⟩
theorem hand_ok (s : List Int) (k : Int) (hk : 0 ≤ k) : ∃ h, m_l_hand s k = some h ∧ Hd h := by
  simp only [m_l_hand, pyLet]
  have hc : ∃ c, (if decide (k < (s.length : Int)) = true then (at_ s k).bind fun x3 => some x3 else some 0 : Option Int) = some c := by
    by_cases h : k < (s.length : Int)
    · rw [if_pos (decide_eq_true h)]
      obtain ⟨x, hx, _⟩ := at_some hk h
      rw [hx]
      exact ⟨x, rfl⟩
    · rw [if_neg (by simpa using h)]
      exact ⟨0, rfl⟩
  obtain ⟨c, hc⟩ := hc
  rw [hc]
  show ∃ h, (Option.bind (if decide (c < 0) = true then some (1 - 2 * c) else some c) _) = some h ∧ Hd h
  have hd : ∃ d, (if decide (c < 0) = true then some (1 - 2 * c) else some c) = some d ∧ 0 ≤ d := by
    by_cases h : c < 0
    · rw [if_pos (decide_eq_true h)]
      exact ⟨_, rfl, by omega⟩
    · rw [if_neg (by simpa using h)]
      exact ⟨c, rfl, by omega⟩
  obtain ⟨d, hd, h0⟩ := hd
  rw [hd]
  show ∃ h, (Option.bind (if decide (((10 : Int) ^ 18) ≤ d) = true then some d else some 0) _) = some h ∧ Hd h
  by_cases h : ((10 : Int) ^ 18) ≤ d
  · rw [if_pos (decide_eq_true h)]
    exact ⟨_, rfl, _, _, _, rfl, h0⟩
  · rw [if_neg (by simpa using h)]
    exact ⟨_, rfl, _, _, _, rfl, by omega⟩
theorem pick_ok {h : List Int} (hh : Hd h) {n : Int} (hn : 1 ≤ n) (hN : n < 2 ^ 200) : ∃ r h', m_l_pick h n = some (r, h') ∧ 0 ≤ r ∧ r < n ∧ Hd h' := by
  obtain ⟨a, b, c, rfl, ha⟩ := hh
  have i0 : ∀ x y z : Int, at_ [x, y, z] 0 = some x := fun _ _ _ => rfl
  have i1 : ∀ x y z : Int, at_ [x, y, z] 1 = some y := fun _ _ _ => rfl
  have i2 : ∀ x y z : Int, at_ [x, y, z] 2 = some z := fun _ _ _ => rfl
  have s0 : ∀ x y z u : Int, setAt [x, y, z] 0 u = some [u, y, z] := fun _ _ _ _ => rfl
  have s2 : ∀ x y z u : Int, setAt [x, y, z] 2 u = some [x, y, u] := fun _ _ _ _ => rfl
  unfold m_l_pick pyLet
  rw [if_neg (by simp; omega)]
  simp only [i0, i1, i2, s0, s2, Option.bind_some]
  by_cases h : 0 < a
  · rw [if_pos (decide_eq_true h), mod_ok (by omega)]
    simp only [Option.bind_some]
    rw [fdiv_ok (by omega) hN]
    simp only [Option.bind_some, s0]
    exact ⟨_, _, rfl, Int.emod_nonneg _ (by omega), Int.emod_lt_of_pos _ (by omega), _, _, _, rfl, Int.ediv_nonneg ha (by omega)⟩
  · rw [if_neg (by simpa using h)]
    have m1 := Int.emod_nonneg (b + 7919 * (c + 1) + 13) (show (2147483647 : Int) ≠ 0 by decide)
    have m2 := Int.emod_lt_of_pos (b + 7919 * (c + 1) + 13) (show (0 : Int) < 2147483647 by decide)
    rw [mul_okL (by omega) (by omega)]
    simp only [Option.bind_some]
    have m3 := Int.emod_nonneg ((b + 7919 * (c + 1) + 13) % 2147483647 * ((b + 7919 * (c + 1) + 13) % 2147483647 + 48271)) (show (2147483629 : Int) ≠ 0 by decide)
    have m4 := Int.emod_lt_of_pos ((b + 7919 * (c + 1) + 13) % 2147483647 * ((b + 7919 * (c + 1) + 13) % 2147483647 + 48271)) (show (0 : Int) < 2147483629 by decide)
    rw [mul_okL (by omega) (by omega)]
    simp only [Option.bind_some]
    rw [mod_ok (by omega)]
    exact ⟨_, _, rfl, Int.emod_nonneg _ (by omega), Int.emod_lt_of_pos _ (by omega), _, _, _, rfl, ha⟩

/-! ### ranges and loops -/
theorem rng_nil {lo hi : Int} (h : hi ≤ lo) : rng lo hi = [] := by
  unfold rng
  have e : (hi - lo).toNat = 0 := by omega
  rw [e]; rfl
theorem rng_cons {lo hi : Int} (h : lo < hi) : rng lo hi = lo :: rng (lo + 1) hi := by
  unfold rng
  have e : (hi - lo).toNat = (hi - (lo + 1)).toNat + 1 := by omega
  rw [e, List.range_succ_eq_map, List.map_cons, List.map_map]
  congr 1
  · omega
  · apply List.map_congr_left
    intro k _
    show lo + ((k + 1 : Nat) : Int) = lo + 1 + (k : Int)
    omega
theorem rngDown_nil {lo hi : Int} (h : lo ≤ hi) : rngDown lo hi = [] := by
  unfold rngDown
  have e : (lo - hi).toNat = 0 := by omega
  rw [e]; rfl
theorem rngDown_cons {lo hi : Int} (h : hi < lo) : rngDown lo hi = lo :: rngDown (lo - 1) hi := by
  unfold rngDown
  have e : (lo - hi).toNat = (lo - 1 - hi).toNat + 1 := by omega
  rw [e, List.range_succ_eq_map, List.map_cons, List.map_map]
  congr 1
  · omega
  · apply List.map_congr_left
    intro k _
    show lo - ((k + 1 : Nat) : Int) = lo - 1 - (k : Int)
    omega
theorem rng_length (lo hi : Int) : (rng lo hi).length = (hi - lo).toNat := by unfold rng; rw [List.length_map, List.length_range]
theorem mem_rng {lo hi x : Int} : x ∈ rng lo hi ↔ lo ≤ x ∧ x < hi := by
  unfold rng
  rw [List.mem_map]
  constructor
  · rintro ⟨k, hk, rfl⟩
    rw [List.mem_range] at hk
    omega
  · intro h
    exact ⟨(x - lo).toNat, List.mem_range.mpr (by omega), by omega⟩
theorem at_app {α : Type} (pre : List α) (x : α) (post : List α) : at_ (pre ++ x :: post) (pre.length : Int) = some x := at_nat (by
  rw [List.getElem?_append_right (Nat.le_refl _), Nat.sub_self]; rfl)
/-- a loop that keeps P runs through -/
theorem forN_inv {α σ : Type} {f : σ → α → Option σ} (P : σ → Prop) : ∀ {xs : List α} {s : σ}, P s → (∀ s x, x ∈ xs → P s → ∃ s', f s x = some s' ∧ P s') → ∃ e, forN f s xs = some e ∧ P e
  | [], s, h0, _ => ⟨s, rfl, h0⟩
  | x :: xs, s, h0, h => by
    obtain ⟨s', e, h1⟩ := h s x (List.mem_cons_self ..) h0
    obtain ⟨e2, h2, h3⟩ := forN_inv P (xs := xs) h1 fun s y hy => h s y (List.mem_cons_of_mem _ hy)
    exact ⟨e2, by show (f s x).bind _ = _; rw [e]; exact h2, h3⟩
theorem forN_nil {α σ : Type} (f : σ → α → Option σ) (s : σ) : forN f s [] = some s := rfl
theorem forN_cons {α σ : Type} (f : σ → α → Option σ) (s : σ) (x : α) (xs : List α) : forN f s (x :: xs) = (f s x).bind fun s' => forN f s' xs := rfl
theorem forR_nil {α σ ρ : Type} (f : σ → α → Option (ρ ⊕ σ)) (s : σ) : forR f s [] = some (.inr s) := rfl
theorem forR_step {α σ ρ : Type} {f : σ → α → Option (ρ ⊕ σ)} {s s' : σ} {x : α} {xs : List α} (h : f s x = some (.inr s')) : forR f s (x :: xs) = forR f s' xs := by
  show (f s x).bind _ = _
  rw [h]; rfl
/-- a search that finds nothing to return -/
theorem forR_all {α ρ : Type} {f : Unit → α → Option (ρ ⊕ Unit)} : ∀ {xs : List α}, (∀ x ∈ xs, f () x = some (.inr ())) → forR f () xs = some (.inr ())
  | [], _ => rfl
  | x :: xs, h => by
    rw [forR_step (h x (List.mem_cons_self ..))]
    exact forR_all fun y hy => h y (List.mem_cons_of_mem _ hy)
/-- a loop that appends what h gives -/
theorem forN_flat {α β : Type} {f : List β → α → Option (List β)} (h : α → List β) (h1 : ∀ x, (h x).length ≤ 1) : ∀ {xs : List α} {acc : List β}, acc.length + xs.length ≤ big → (∀ acc x, x ∈ xs → acc.length < big → f acc x = some (acc ++ h x)) → forN f acc xs = some (acc ++ xs.flatMap h)
  | [], acc, _, _ => by rw [List.flatMap_nil, List.append_nil]; rfl
  | x :: xs, acc, hb, hf => by
    rw [List.length_cons] at hb
    rw [forN_cons, hf acc x (List.mem_cons_self ..) (by omega), Option.bind_some, forN_flat h h1 (by rw [List.length_append]; have := h1 x; omega) fun a y hy => hf a y (List.mem_cons_of_mem _ hy), List.flatMap_cons, List.append_assoc]
/-- a walk by index is a walk over the pairs -/
theorem forN_index {α σ : Type} {f : σ → Int → Option σ} {g : σ → Int × α → Option σ} : ∀ (suf pre : List α) (s : σ), (∀ s (k : Nat) x, (pre ++ suf)[k]? = some x → f s (k : Int) = g s ((k : Int), x)) → forN f s (rng (pre.length : Int) ((pre ++ suf).length : Int)) = forN g s (enumF (pre.length : Int) suf)
  | [], pre, s, _ => by rw [rng_nil (by rw [List.append_nil]; omega)]; rfl
  | x :: suf, pre, s, h => by
    rw [rng_cons (by rw [List.length_append, List.length_cons]; omega)]
    show (f s (pre.length : Int)).bind _ = (g s ((pre.length : Int), x)).bind _
    rw [h s pre.length x (by rw [List.getElem?_append_right (Nat.le_refl _), Nat.sub_self]; rfl)]
    congr 1
    funext s'
    have e : pre ++ x :: suf = (pre ++ [x]) ++ suf := by rw [List.append_assoc]; rfl
    have e2 : ((pre ++ [x]).length : Int) = (pre.length : Int) + 1 := by rw [List.length_append]; rfl
    have z := forN_index suf (pre ++ [x]) s' (f := f) (g := g) (fun s k y hy => h s k y (by rw [e]; exact hy))
    rw [e2] at z
    rw [e]; exact z
theorem forN_index0 {α σ : Type} {f : σ → Int → Option σ} {g : σ → Int × α → Option σ} (xs : List α) (s : σ) (h : ∀ s (k : Nat) x, xs[k]? = some x → f s (k : Int) = g s ((k : Int), x)) : forN f s (rng 0 (xs.length : Int)) = forN g s (enumF 0 xs) := forN_index xs [] s h
theorem enumF_length {α : Type} : ∀ (k : Int) (xs : List α), (enumF k xs).length = xs.length
  | _, [] => rfl
  | k, _ :: ys => by show (enumF (k + 1) ys).length + 1 = ys.length + 1; rw [enumF_length]
theorem enumF_mem {α : Type} : ∀ (k : Int) (xs : List α) {p : Int × α}, p ∈ enumF k xs → p.2 ∈ xs
  | _, [], _, h => by cases h
  | k, y :: ys, p, h => by
    rcases List.mem_cons.mp h with rfl | h
    · exact List.mem_cons_self ..
    · exact List.mem_cons_of_mem _ (enumF_mem (k + 1) ys h)
theorem sortI_self {xs : List Int} (h : xs.Pairwise (· ≤ ·)) : sortI xs = xs := List.mergeSort_of_pairwise (List.Pairwise.imp (fun z => decide_eq_true z) h)
theorem at_mem {α : Type} {xs : List α} {i : Int} (h0 : 0 ≤ i) (h1 : i < xs.length) : ∃ x, at_ xs i = some x ∧ x ∈ xs := by
  obtain ⟨x, e, g⟩ := at_some h0 h1
  exact ⟨x, e, List.mem_of_getElem? g⟩
theorem popAt_ok {α : Type} {xs : List α} {i : Int} (h0 : 0 ≤ i) (h1 : i < xs.length) : ∃ x, popAt xs i = some (x, xs.eraseIdx i.toNat) := by
  have hj : i.toNat < xs.length := by omega
  refine ⟨xs[i.toNat], ?_⟩
  unfold popAt ixN
  rw [if_pos h0, if_pos h1, Option.bind_some, List.getElem?_eq_getElem hj]
  rfl
theorem guard_ok {c : Bool} (h : c = true) : guardO c = some () := if_pos h
theorem pairwise_flat {α : Type} {r : α → α → Prop} {h : α → List α} (hs : ∀ x, h x = [] ∨ h x = [x]) : ∀ {xs : List α}, xs.Pairwise r → (xs.flatMap h).Pairwise r ∧ ∀ y ∈ xs.flatMap h, y ∈ xs
  | [], _ => ⟨by rw [List.flatMap_nil]; exact .nil, fun y hy => by rw [List.flatMap_nil] at hy; exact hy⟩
  | x :: xs, p => by
    have pc := List.pairwise_cons.mp p
    obtain ⟨i1, i2⟩ := pairwise_flat hs pc.2
    rw [List.flatMap_cons]
    rcases hs x with e | e
    · rw [e, List.nil_append]
      exact ⟨i1, fun y hy => List.mem_cons_of_mem _ (i2 y hy)⟩
    · rw [e]
      refine ⟨List.pairwise_cons.mpr ⟨fun y hy => pc.1 y (i2 y hy), i1⟩, fun y hy => ?_⟩
      rcases List.mem_cons.mp hy with rfl | hy
      · exact List.mem_cons_self ..
      · exact List.mem_cons_of_mem _ (i2 y hy)
theorem rng_lt (lo hi : Int) : (rng lo hi).Pairwise (· < ·) := by
  unfold rng
  rw [List.pairwise_map]
  exact List.Pairwise.imp (fun h => by omega) List.pairwise_lt_range
theorem bd {α β : Type} {m : Option α} {f : α → Option β} {x : α} {r : Option β} (h : m = some x) (k : f x = r) : m.bind f = r := by rw [h]; exact k
theorem le_big {n : Nat} (h : n ≤ 100000) : n ≤ big := Nat.le_trans h (by decide)
theorem lt_big {n : Nat} (h : n ≤ 100000) : n < big := Nat.lt_of_le_of_lt h (by decide)
theorem flat_one {α : Type} : ∀ xs : List α, xs.flatMap (fun x => [x]) = xs
  | [] => rfl
  | x :: xs => by rw [List.flatMap_cons, flat_one xs]; rfl
theorem flat_le {α β : Type} {h : α → List β} (h1 : ∀ x, (h x).length ≤ 1) : ∀ xs : List α, (xs.flatMap h).length ≤ xs.length
  | [] => Nat.le_refl _
  | x :: xs => by rw [List.flatMap_cons, List.length_append, List.length_cons]; have := h1 x; have := flat_le h1 xs; omega
theorem ift {α : Type} {b : Bool} {x y r : Option α} (h : b = true) (k : x = r) : (if b = true then x else y) = r := by rw [if_pos h]; exact k
theorem iff' {α : Type} {b : Bool} {x y r : Option α} (h : b = false) (k : y = r) : (if b = true then x else y) = r := by rw [h, if_neg Bool.false_ne_true]; exact k
theorem forN_flatC {α β : Type} {f : List β → α → Option (List β)} (h : α → List β) (c : Nat) : ∀ {xs : List α} {acc : List β}, acc.length + c * xs.length ≤ 100000 → (∀ x ∈ xs, (h x).length ≤ c) → (∀ acc x, x ∈ xs → acc.length + c ≤ 100000 → f acc x = some (acc ++ h x)) → forN f acc xs = some (acc ++ xs.flatMap h)
  | [], acc, _, _, _ => by rw [List.flatMap_nil, List.append_nil]; rfl
  | x :: xs, acc, hb, h1, hf => by
    rw [List.length_cons, Nat.mul_add, Nat.mul_one] at hb
    rw [forN_cons, hf acc x (List.mem_cons_self ..) (by omega), Option.bind_some, forN_flatC h c (by rw [List.length_append]; have := h1 x (List.mem_cons_self ..); omega) (fun y hy => h1 y (List.mem_cons_of_mem _ hy)) fun a y hy => hf a y (List.mem_cons_of_mem _ hy), List.flatMap_cons, List.append_assoc]
theorem enumF_map {α β : Type} (g : α → β) : ∀ (k : Int) (xs : List α), enumF k (xs.map g) = (enumF k xs).map fun p => (p.1, g p.2)
  | _, [] => rfl
  | k, x :: xs => by show (k, g x) :: enumF (k + 1) (xs.map g) = (k, g x) :: _; rw [enumF_map g (k + 1) xs]
theorem flat_map {α β γ : Type} (g : α → β) (h : β → List γ) : ∀ xs : List α, (xs.map g).flatMap h = xs.flatMap fun x => h (g x)
  | [] => rfl
  | x :: xs => by rw [List.map_cons, List.flatMap_cons, List.flatMap_cons, flat_map g h xs]
theorem flat_sing {α β : Type} (g : α → β) : ∀ xs : List α, (xs.flatMap fun x => [g x]) = xs.map g
  | [] => rfl
  | x :: xs => by rw [List.flatMap_cons, flat_sing g xs]; rfl
theorem joinE_sing {α : Type} (g : α → Nat) : ∀ xs : List α, joinL [] (xs.map fun x => [g x]) = xs.map g
  | [] => rfl
  | [_] => rfl
  | x :: y :: r => by
    show [g x] ++ ([] ++ joinL [] ((y :: r).map fun x => [g x])) = _
    rw [joinE_sing g (y :: r)]; rfl
theorem sum_sing {α : Type} (g : α → Nat) : ∀ xs : List α, ((xs.map fun x => [g x]).map (·.length)).sum = xs.length
  | [] => rfl
  | x :: xs => by
    rw [List.map_cons, List.map_cons, List.sum_cons, sum_sing g xs]
    show 1 + xs.length = xs.length + 1
    omega
theorem sJoin_sing {α : Type} (g : α → Nat) {xs : List α} (h : xs.length ≤ 100000) : sJoin [] (xs.map fun x => [g x]) = some (xs.map g) := by
  unfold sJoin
  rw [sum_sing, joinE_sing, if_pos (by show xs.length + _ * 0 ≤ big; rw [Nat.mul_zero]; exact le_big h)]
theorem sLen_ok {s : List Nat} (h : s.length ≤ 100000) : sLen s = some (s.length : Int) := if_pos (le_big h)
theorem sAt_ok {s : List Nat} {i : Int} (h : s.length ≤ 100000) (h0 : 0 ≤ i) (h1 : i < s.length) : sAt s i = some [s[i.toNat]?.getD 0] ∧ s[i.toNat]?.getD 0 ∈ s := by
  obtain ⟨x, e, g⟩ := at_some h0 h1
  unfold sAt
  rw [if_pos (le_big h), e, g]
  exact ⟨rfl, List.mem_of_getElem? g⟩
theorem sCut_ok {s : List Nat} {lo hi : Option Int} (h : s.length ≤ 100000) : sCut s lo hi = some (cut s lo hi) := if_pos (le_big h)
theorem sCat_ok {s t : List Nat} (h : s.length + t.length ≤ 100000) : sCat s t = some (s ++ t) := if_pos (le_big h)
theorem cut_mem {α : Type} {xs : List α} {lo hi : Option Int} {x : α} (h : x ∈ cut xs lo hi) : x ∈ xs := List.mem_of_mem_drop (List.mem_of_mem_take h)
theorem cut_to {α : Type} {xs : List α} {i : Int} (h0 : 0 ≤ i) (h1 : i ≤ xs.length) : (cut xs none (some i)).length = i.toNat := by
  show ((xs.drop 0).take ((if i < 0 then (i + (xs.length : Int)).toNat else min i.toNat xs.length) - 0)).length = _
  rw [if_neg (by omega), List.length_take, List.length_drop]
  omega
theorem cut_from {α : Type} {xs : List α} {i : Int} (h0 : 0 ≤ i) (h1 : i ≤ xs.length) : (cut xs (some i) none).length = xs.length - i.toNat := by
  show ((xs.drop (if i < 0 then (i + (xs.length : Int)).toNat else min i.toNat xs.length)).take (xs.length - (if i < 0 then (i + (xs.length : Int)).toNat else min i.toNat xs.length))).length = _
  rw [if_neg (by omega), List.length_take, List.length_drop]
  omega
theorem map_erase {α β : Type} (f : α → β) : ∀ (xs : List α) (k : Nat), (xs.map f).eraseIdx k = (xs.eraseIdx k).map f
  | [], _ => rfl
  | x :: xs, 0 => rfl
  | x :: xs, k + 1 => by
    show f x :: (xs.map f).eraseIdx k = f x :: (xs.eraseIdx k).map f
    rw [map_erase f xs k]

/-! ### loops by what has been gone through -/
theorem forN_ind {α σ : Type} {f : σ → α → Option σ} (P : List α → σ → Prop) {xs : List α} {s0 : σ} (h0 : P [] s0) (h : ∀ pre x suf s, xs = pre ++ x :: suf → P pre s → ∃ s', f s x = some s' ∧ P (pre ++ [x]) s') : ∃ e, forN f s0 xs = some e ∧ P xs e := by
  have key : ∀ (suf pre : List α) (s : σ), xs = pre ++ suf → P pre s → ∃ e, forN f s suf = some e ∧ P xs e := by
    intro suf
    induction suf with
    | nil => intro pre s e p; rw [List.append_nil] at e; subst e; exact ⟨s, rfl, p⟩
    | cons x suf ih =>
      intro pre s e p
      obtain ⟨s', e1, p1⟩ := h pre x suf s e p
      obtain ⟨r, e2, p2⟩ := ih (pre ++ [x]) s' (by rw [e, List.append_assoc]; rfl) p1
      exact ⟨r, by rw [forN_cons, e1]; exact e2, p2⟩
  exact key xs [] s0 rfl h0
theorem forN_thru {α σ : Type} {f : σ → α → Option σ} (st : List α → σ) {xs : List α} {s0 : σ} (h0 : s0 = st []) (h : ∀ pre x suf, xs = pre ++ x :: suf → f (st pre) x = some (st (pre ++ [x]))) : forN f s0 xs = some (st xs) := by
  obtain ⟨e, h1, h2⟩ := forN_ind (f := f) (fun pre s => s = st pre) h0 (fun pre x suf s e p => ⟨_, by rw [p]; exact h pre x suf e, rfl⟩)
  rw [h1, h2]
theorem forR_thru {α σ ρ : Type} {f : σ → α → Option (ρ ⊕ σ)} (st : List α → σ) {xs : List α} {s0 : σ} (h0 : s0 = st []) (h : ∀ pre x suf, xs = pre ++ x :: suf → f (st pre) x = some (.inr (st (pre ++ [x])))) : forR f s0 xs = some (.inr (st xs)) := by
  subst h0
  have key : ∀ (suf pre : List α), xs = pre ++ suf → forR f (st pre) suf = some (.inr (st xs)) := by
    intro suf
    induction suf with
    | nil => intro pre e; rw [List.append_nil] at e; subst e; rfl
    | cons x suf ih =>
      intro pre e
      rw [forR_step (h pre x suf e)]
      exact ih (pre ++ [x]) (by rw [e, List.append_assoc]; rfl)
  exact key xs [] rfl
theorem mem_mid {α : Type} {xs pre suf : List α} {x : α} (e : xs = pre ++ x :: suf) : x ∈ xs := by rw [e]; exact List.mem_append_right _ (List.mem_cons_self ..)
theorem mem_pre {α : Type} {xs pre suf : List α} {x y : α} (e : xs = pre ++ x :: suf) (h : y ∈ pre) : y ∈ xs := by rw [e]; exact List.mem_append_left _ h
theorem rng_app (lo mid hi : Int) (h1 : lo ≤ mid) (h2 : mid ≤ hi) : rng lo hi = rng lo mid ++ rng mid hi := by
  have key : ∀ (n : Nat) (lo : Int), (mid - lo).toNat = n → lo ≤ mid → rng lo hi = rng lo mid ++ rng mid hi := by
    intro n
    induction n with
    | zero => intro lo e h; have : lo = mid := by omega
              subst this; rw [rng_nil (Int.le_refl _)]; rfl
    | succ n ih =>
      intro lo e h
      rw [rng_cons (lo := lo) (hi := hi) (by omega), rng_cons (lo := lo) (hi := mid) (by omega), ih (lo + 1) (by omega) (by omega)]; rfl
  exact key _ lo rfl h1
theorem rng_mid {lo hi : Int} {pre suf : List Int} {x : Int} (e : rng lo hi = pre ++ x :: suf) : x = lo + pre.length ∧ pre = rng lo x ∧ suf = rng (x + 1) hi ∧ x < hi := by
  induction pre generalizing lo with
  | nil =>
    by_cases h : lo < hi
    · rw [rng_cons h] at e
      obtain ⟨rfl, e2⟩ := List.cons.inj e
      exact ⟨by simp, by rw [rng_nil (Int.le_refl _)], e2.symm, h⟩
    · rw [rng_nil (by omega)] at e; cases e
  | cons y pre ih =>
    by_cases h : lo < hi
    · rw [rng_cons h] at e
      obtain ⟨rfl, e2⟩ := List.cons.inj e
      obtain ⟨h1, h2, h3, h4⟩ := ih e2
      have hl : lo < x := by rw [h1]; omega
      exact ⟨by rw [h1, List.length_cons]; omega, by rw [rng_cons hl, ← h2], h3, h4⟩
    · rw [rng_nil (by omega)] at e; cases e
theorem at_rng {lo hi i : Int} (h0 : 0 ≤ i) (h1 : lo + i < hi) : at_ (rng lo hi) i = some (lo + i) := by
  refine at_int h0 ?_
  unfold rng
  rw [List.getElem?_map, List.getElem?_range (by omega)]
  show some (lo + (i.toNat : Int)) = _
  rw [Int.toNat_of_nonneg h0]
theorem setAt_ok {α : Type} {xs : List α} {i : Int} {x : α} (h0 : 0 ≤ i) (h1 : i < xs.length) : setAt xs i x = some (xs.set i.toNat x) := by
  unfold setAt ixN
  rw [if_pos h0, if_pos h1]; rfl
theorem at_get {α : Type} {xs : List α} {i : Int} {d : α} (h0 : 0 ≤ i) (h1 : i < xs.length) : at_ xs i = some (xs[i.toNat]?.getD d) := by
  obtain ⟨x, e, g⟩ := at_some h0 h1
  rw [e, g]; rfl
theorem contains_true {α : Type} [BEq α] [LawfulBEq α] {xs : List α} {x : α} (h : x ∈ xs) : xs.contains x = true := by rw [List.contains_iff_mem]; exact h
theorem contains_false {α : Type} [BEq α] [LawfulBEq α] {xs : List α} {x : α} (h : x ∉ xs) : xs.contains x = false := by
  cases e : xs.contains x with
  | false => rfl
  | true => exact absurd (List.contains_iff_mem.mp e) h
theorem nodup_mid {α : Type} {xs pre suf : List α} {x : α} (e : xs = pre ++ x :: suf) (h : xs.Nodup) : x ∉ pre := by
  intro hm
  rw [e] at h
  exact (List.pairwise_append.mp h).2.2 x hm x (List.mem_cons_self ..) rfl
theorem lt_nodup {xs : List Int} (h : xs.Pairwise (· < ·)) : xs.Nodup := List.Pairwise.imp (fun z e => by omega) h
theorem lt_len {xs : List Int} {n : Nat} (hp : xs.Pairwise (· < ·)) (hb : ∀ x ∈ xs, 0 ≤ x ∧ x < (n : Int)) : xs.length ≤ n := by
  have h2 : ∀ (n : Nat) (l : List Int) (lo : Int), l.Pairwise (· < ·) → (∀ x ∈ l, lo ≤ x ∧ x < lo + n) → l.length ≤ n := by
    intro n
    induction n with
    | zero =>
      intro l lo _ hb
      cases l with
      | nil => exact Nat.le_refl _
      | cons x l => have := hb x (List.mem_cons_self ..); omega
    | succ n ih =>
      intro l lo hp hb
      cases l with
      | nil => exact Nat.zero_le _
      | cons x l =>
        have hx := hb x (List.mem_cons_self ..)
        have pc := List.pairwise_cons.mp hp
        have := ih l (lo + 1) pc.2 (fun y hy => by
          have h1 := pc.1 y hy
          have h2 := hb y (List.mem_cons_of_mem _ hy)
          omega)
        rw [List.length_cons]; omega
  exact h2 n xs 0 hp (fun x hx => by have := hb x hx; omega)

/-! ### a drawn sea -/
abbrev SeaT := List Int × List (Int × Int) × List Int × List Int
def LanesU (n : Int) (ls : List (Int × Int)) : Prop := (∀ p ∈ ls, 0 ≤ p.1 ∧ p.1 < p.2 ∧ p.2 < n) ∧ ls.Nodup ∧ ls.length ≤ 66
def TideOk (t : List Int) : Prop := 1 ≤ t.length ∧ t.length ≤ 12 ∧ ∀ x ∈ t, 0 ≤ x ∧ x ≤ 20
def DeepOk (t : List Int) : Prop := 1 ≤ t.length ∧ t.length ≤ 12 ∧ ∀ x ∈ t, 0 ≤ x ∧ x ≤ 99
def PortOk (n : Int) (t : List Int) : Prop := t.Pairwise (· < ·) ∧ ∀ x ∈ t, 0 ≤ x ∧ x < n
def SeaOk (s : SeaT) : Prop := DeepOk s.1 ∧ LanesU s.1.length s.2.1 ∧ TideOk s.2.2.1 ∧ PortOk s.1.length s.2.2.2
theorem some_ok {h : List Int} (hh : Hd h) {n c : Int} (n0 : 0 ≤ n) (n1 : n ≤ 1000) (c0 : 1 ≤ c) (c1 : c ≤ 1000) : ∃ z h', m_l_some h n c = some (z, h') ∧ PortOk n z ∧ Hd h' := by
  simp only [m_l_some]
  rw [rngO_ok (by decide) (by decide) (by omega) (by omega)]; simp only [Option.bind_some]
  obtain ⟨e, he, p1, p2, p3, _⟩ := forN_ind (f := m_l_some_b1 c) (xs := rng 0 n) (s0 := (h, ([] : List Int))) (fun pre s => Hd s.1 ∧ s.2.Pairwise (· < ·) ∧ (∀ x ∈ s.2, 0 ≤ x ∧ x < (pre.length : Int)) ∧ s.2.length ≤ pre.length) ⟨hh, .nil, (fun x hx => nomatch hx), Nat.le_refl _⟩ (fun pre x suf s e hp => by
    obtain ⟨hs, hp1, hp2, hl⟩ := hp
    obtain ⟨e1, e2, _, e4⟩ := rng_mid e
    obtain ⟨r, h1, er, r0, r1, hh1⟩ := pick_ok hs (n := c) c0 (by omega)
    simp only [m_l_some_b1]
    rw [er]; simp only [Option.bind_some]
    have hl2 : ((pre ++ [x]).length : Int) = (pre.length : Int) + 1 := by rw [List.length_append]; rfl
    have hl3 : (pre ++ [x]).length = pre.length + 1 := by rw [List.length_append]; rfl
    by_cases c : r = 0
    · rw [if_pos (decide_eq_true c), app_ok (xs := s.2) (lt_big (by omega))]; simp only [Option.bind_some]
      refine ⟨_, rfl, hh1, ?_, ?_, ?_⟩
      · show (s.2 ++ [x]).Pairwise (· < ·)
        rw [List.pairwise_append]
        exact ⟨hp1, List.pairwise_singleton .., fun a ha b hb => by rw [List.mem_singleton] at hb; subst hb; have := hp2 a ha; omega⟩
      · intro y hy
        rcases List.mem_append.mp hy with hy | hy
        · have := hp2 y hy; omega
        · rw [List.mem_singleton] at hy; omega
      · show (s.2 ++ [x]).length ≤ _; rw [List.length_append, hl3]; show s.2.length + 1 ≤ _; omega
    · rw [if_neg (by simpa using c)]; simp only [Option.bind_some]
      exact ⟨_, rfl, hh1, hp1, fun y hy => by have := hp2 y hy; omega, by show s.2.length ≤ _; omega⟩)
  rw [he]; simp only [Option.bind_some]
  refine ⟨_, _, rfl, ⟨p2, fun x hx => ?_⟩, p1⟩
  have := p3 x hx
  rw [rng_length] at this; omega
theorem sea_ok {h : List Int} (hh : Hd h) {n : Int} (n0 : 1 ≤ n) (n1 : n ≤ 12) : ∃ s h', m_l_sea h n = some (s, h') ∧ SeaOk s ∧ Hd h' ∧ (s.1.length : Int) ≤ n ∧ s.2.2.1.length ≤ 3 ∧ ∃ r, s.2.2.1 = 0 :: r := by
  simp only [m_l_sea, pyLet]
  obtain ⟨a, h1, e1, a0, a1, hh1⟩ := pick_ok hh (n := n) n0 (by omega)
  rw [e1]; simp only [Option.bind_some]
  obtain ⟨b, h2, e2, b0, b1, hh2⟩ := pick_ok hh1 (n := 3) (by decide) (by decide)
  rw [e2]; simp only [Option.bind_some]
  obtain ⟨sp, e3, m3⟩ := at_mem (xs := [(2 : Int), (6 : Int), (100 : Int)]) b0 b1
  rw [e3]; simp only [Option.bind_some]
  have sp1 : 1 ≤ sp ∧ sp ≤ 100 := by simp at m3; omega
  obtain ⟨c, h3, e4, c0, c1, hh3⟩ := pick_ok hh2 (n := 3) (by decide) (by decide)
  rw [e4]; simp only [Option.bind_some]
  obtain ⟨sw, e5, m5⟩ := at_mem (xs := [(1 : Int), (4 : Int), (21 : Int)]) c0 c1
  rw [e5]; simp only [Option.bind_some]
  have sw1 : 1 ≤ sw ∧ sw ≤ 21 := by simp at m5; omega
  rw [rngO_ok (by decide) (by decide) (by omega) (by omega)]; simp only [Option.bind_some]
  obtain ⟨q, eq, q1, q2, q3, q4, q5, q6⟩ := forN_ind (f := m_l_sea_b1 sp) (xs := rng 0 (1 + a)) (s0 := (h3, ([] : List Int), ([] : List (Int × Int)))) (fun pre s => Hd s.1 ∧ s.2.1.length = pre.length ∧ (∀ x ∈ s.2.1, 0 ≤ x ∧ x ≤ 99) ∧ (∀ p ∈ s.2.2, 0 ≤ p.1 ∧ p.1 < p.2 ∧ p.2 < (pre.length : Int)) ∧ s.2.2.Nodup ∧ 2 * s.2.2.length + pre.length ≤ pre.length * pre.length) ⟨hh3, rfl, (fun x hx => nomatch hx), (fun x hx => nomatch hx), .nil, Nat.le_refl _⟩ (fun pre x suf s e hp => by
    obtain ⟨p1, p2, p3, p4, p5, p6⟩ := hp
    obtain ⟨g1, g2, _, g4⟩ := rng_mid e
    have hl2 : ((pre ++ [x]).length : Int) = (pre.length : Int) + 1 := by rw [List.length_append]; rfl
    have hl3 : (pre ++ [x]).length = pre.length + 1 := by rw [List.length_append]; rfl
    have pl : pre.length ≤ 12 := by omega
    have pm : pre.length * pre.length ≤ 12 * 12 := Nat.mul_le_mul pl pl
    simp only [m_l_sea_b1]
    obtain ⟨d, h4, e6, d0, d1, hh4⟩ := pick_ok p1 (n := sp) (by omega) (by omega)
    rw [e6]; simp only [Option.bind_some]
    rw [app_ok (xs := s.2.1) (lt_big (by omega))]; simp only [Option.bind_some]
    rw [rngO_ok (by decide) (by decide) (by omega) (by omega)]; simp only [Option.bind_some]
    obtain ⟨u, eu, u1, u2, u3, u4⟩ := forN_ind (f := m_l_sea_b2 x) (xs := rng 0 x) (s0 := (h4, s.2.2)) (fun pr t => Hd t.1 ∧ (∀ p ∈ t.2, p ∈ s.2.2 ∨ (p.2 = x ∧ 0 ≤ p.1 ∧ p.1 < (pr.length : Int))) ∧ t.2.Nodup ∧ t.2.length ≤ s.2.2.length + pr.length) ⟨hh4, fun p hp => .inl hp, p5, Nat.le_refl _⟩ (fun pr y sf t e' hp' => by
      obtain ⟨t1, t2, t3, t4⟩ := hp'
      obtain ⟨k1, _, _, k4⟩ := rng_mid e'
      have kl2 : ((pr ++ [y]).length : Int) = (pr.length : Int) + 1 := by rw [List.length_append]; rfl
      have kl3 : (pr ++ [y]).length = pr.length + 1 := by rw [List.length_append]; rfl
      simp only [m_l_sea_b2]
      obtain ⟨z, h5, e7, z0, z1, hh5⟩ := pick_ok t1 (n := 4) (by decide) (by decide)
      rw [e7]; simp only [Option.bind_some]
      by_cases cz : 0 < z
      · rw [if_pos (decide_eq_true cz), app_ok (xs := t.2) (lt_big (by omega))]; simp only [Option.bind_some]
        refine ⟨_, rfl, hh5, ?_, ?_, ?_⟩
        · intro p hp
          rcases List.mem_append.mp hp with hp | hp
          · rcases t2 p hp with h | h
            · exact .inl h
            · exact .inr ⟨h.1, h.2.1, by omega⟩
          · rw [List.mem_singleton] at hp; subst hp; exact .inr ⟨rfl, by show 0 ≤ y; omega, by show y < _; omega⟩
        · show (t.2 ++ [(y, x)]).Nodup
          rw [List.nodup_append]
          refine ⟨t3, List.nodup_cons.mpr ⟨List.not_mem_nil, .nil⟩, fun p hp p' hp' => ?_⟩
          rw [List.mem_singleton] at hp'; subst hp'
          intro he; subst he
          rcases t2 _ hp with h | h
          · have := p4 _ h; simp only at this; omega
          · have := h.2.2; simp only at this; omega
        · show (t.2 ++ [(y, x)]).length ≤ _; rw [List.length_append, kl3]; show t.2.length + 1 ≤ _; omega
      · rw [if_neg (by simpa using cz)]; simp only [Option.bind_some]
        exact ⟨_, rfl, hh5, fun p hp => by
          rcases t2 p hp with h | h
          · exact .inl h
          · exact .inr ⟨h.1, h.2.1, by omega⟩, t3, by show t.2.length ≤ _; omega⟩)
    rw [eu]; simp only [Option.bind_some]
    rw [rng_length] at u2 u4
    refine ⟨_, rfl, u1, ?_, ?_, ?_, u3, ?_⟩
    · show (s.2.1 ++ [d]).length = _; rw [List.length_append, hl3, p2]; rfl
    · intro y hy
      rcases List.mem_append.mp hy with hy | hy
      · exact p3 y hy
      · rw [List.mem_singleton] at hy; subst hy; omega
    · intro p hp
      rcases u2 p hp with h | h
      · have := p4 p h; omega
      · omega
    · show 2 * u.2.length + _ ≤ _
      have hx : (x - 0).toNat = pre.length := by omega
      rw [hl3, Nat.add_mul, Nat.mul_add]
      omega)
  rw [eq]; simp only [Option.bind_some]
  rw [rng_length] at q2 q4 q6
  have hn : (1 + a - 0).toNat = (1 + a).toNat := by omega
  obtain ⟨d, h4, e6, d0, d1, hh4⟩ := pick_ok q1 (n := 3) (by decide) (by decide)
  rw [e6]; simp only [Option.bind_some]
  rw [rngO_ok (by decide) (by decide) (by omega) (by omega)]; simp only [Option.bind_some]
  obtain ⟨u, eu, u1, u2, u3, u4⟩ := forN_ind (f := m_l_sea_b3 sw) (xs := rng 0 d) (s0 := (h4, [(0 : Int)])) (fun pr t => Hd t.1 ∧ (∀ y ∈ t.2, 0 ≤ y ∧ y ≤ 20) ∧ t.2.length = 1 + pr.length ∧ ∃ r, t.2 = 0 :: r) ⟨hh4, (fun y hy => by rw [List.mem_singleton] at hy; omega), rfl, [], rfl⟩ (fun pr y sf t e' hp' => by
    obtain ⟨t1, t2, t3, r, t4⟩ := hp'
    obtain ⟨k1, _, _, k4⟩ := rng_mid e'
    simp only [m_l_sea_b3]
    obtain ⟨z, h5, e7, z0, z1, hh5⟩ := pick_ok t1 (n := sw) (by omega) (by omega)
    rw [e7]; simp only [Option.bind_some]
    rw [app_ok (xs := t.2) (lt_big (by omega))]; simp only [Option.bind_some]
    refine ⟨_, rfl, hh5, ?_, ?_, r ++ [z], ?_⟩
    · intro p hp
      rcases List.mem_append.mp hp with hp | hp
      · exact t2 p hp
      · rw [List.mem_singleton] at hp; omega
    · show (t.2 ++ [z]).length = _; rw [List.length_append, List.length_append, t3]; rfl
    · show t.2 ++ [z] = _; rw [t4]; rfl)
  rw [eu]; simp only [Option.bind_some]
  rw [rng_length] at u3
  obtain ⟨z, h5, e8, hz, hh5⟩ := some_ok u1 (n := 1 + a) (c := 4) (by omega) (by omega) (by decide) (by decide)
  rw [e8]; simp only [Option.bind_some]
  have ql : (q.2.1.length : Int) = 1 + a := by omega
  refine ⟨_, _, rfl, ⟨⟨?_, ?_, q3⟩, ⟨?_, q5, ?_⟩, ⟨?_, ?_, u2⟩, ?_⟩, hh5, ?_, ?_, u4⟩
  · show 1 ≤ q.2.1.length; omega
  · show q.2.1.length ≤ 12; omega
  · intro p hp
    have := q4 p hp
    show _ ∧ _ ∧ p.2 < (q.2.1.length : Int); omega
  · show q.2.2.length ≤ 66
    have hm : (1 + a - 0).toNat * (1 + a - 0).toNat ≤ 12 * (1 + a - 0).toNat := Nat.mul_le_mul_right _ (by omega)
    omega
  · show 1 ≤ u.2.length; omega
  · show u.2.length ≤ 12; omega
  · show PortOk (q.2.1.length : Int) z; rw [ql]; exact hz
  · show (q.2.1.length : Int) ≤ n; omega
  · show u.2.length ≤ 3; omega
theorem wide_ok {h : List Int} (hh : Hd h) : ∃ s h', m_l_wide h = some (s, h') ∧ SeaOk s ∧ Hd h' ∧ s.2.2.1.length ≤ 3 ∧ ∃ r, s.2.2.1 = 0 :: r := by
  simp only [m_l_wide]
  obtain ⟨a, h1, e1, a0, a1, hh1⟩ := pick_ok hh (n := 8) (by decide) (by decide)
  rw [e1]; simp only [Option.bind_some]
  obtain ⟨k, e2, m2⟩ := at_mem (xs := [(6 : Int), (6 : Int), (6 : Int), (6 : Int), (6 : Int), (6 : Int), (6 : Int), (12 : Int)]) a0 a1
  rw [e2]; simp only [Option.bind_some]
  obtain ⟨s, h2, e3, hs, hh2, _, hf, hr⟩ := sea_ok hh1 (n := k) (by simp at m2; omega) (by simp at m2; omega)
  rw [e3]; simp only [Option.bind_some]
  exact ⟨_, _, rfl, hs, hh2, hf, hr⟩
theorem flows_ok {h : List Int} (hh : Hd h) {s : SeaT} (hs : TideOk s.2.2.1) : ∃ t h', m_l_flows h s = some (t, h') ∧ TideOk t ∧ Hd h' := by
  simp only [m_l_flows]
  obtain ⟨a, h1, e1, a0, a1, hh1⟩ := pick_ok hh (n := 8) (by decide) (by decide)
  rw [e1]; simp only [Option.bind_some]
  by_cases c : a = 0
  · rw [if_pos (decide_eq_true c)]
    obtain ⟨b, h2, e2, b0, b1, hh2⟩ := pick_ok hh1 (n := 12) (by decide) (by decide)
    rw [e2]; simp only [Option.bind_some]
    rw [rngO_ok (by decide) (by decide) (by omega) (by omega)]; simp only [Option.bind_some]
    obtain ⟨u, eu, u1, u2, u3⟩ := forN_ind (f := m_l_flows_b1) (xs := rng 0 (1 + b)) (s0 := (([] : List Int), h2)) (fun pr t => Hd t.2 ∧ (∀ y ∈ t.1, 0 ≤ y ∧ y ≤ 20) ∧ t.1.length = pr.length) ⟨hh2, (fun y hy => nomatch hy), rfl⟩ (fun pr y sf t e' hp' => by
      obtain ⟨t1, t2, t3⟩ := hp'
      obtain ⟨k1, _, _, k4⟩ := rng_mid e'
      simp only [m_l_flows_b1]
      obtain ⟨z, h5, e7, z0, z1, hh5⟩ := pick_ok t1 (n := 21) (by decide) (by decide)
      rw [e7]; simp only [Option.bind_some]
      rw [app_ok (xs := t.1) (lt_big (by omega))]; simp only [Option.bind_some]
      refine ⟨_, rfl, hh5, ?_, ?_⟩
      · intro p hp
        rcases List.mem_append.mp hp with hp | hp
        · exact t2 p hp
        · rw [List.mem_singleton] at hp; omega
      · show (t.1 ++ [z]).length = _; rw [List.length_append, List.length_append, t3]; rfl)
    rw [eu]; simp only [Option.bind_some]
    rw [rng_length] at u3
    exact ⟨_, _, rfl, ⟨by show 1 ≤ u.1.length; omega, by show u.1.length ≤ 12; omega, u2⟩, u1⟩
  · rw [if_neg (by simpa using c)]
    have l1 := cut_from (xs := s.2.2.1) (i := 1) (by decide) (by have := hs.1; omega)
    have l2 := cut_to (xs := s.2.2.1) (i := 1) (by decide) (by have := hs.1; omega)
    have t1 := hs.1
    have t2 := hs.2.1
    have i1 : (1 : Int).toNat = 1 := rfl
    rw [i1] at l1 l2
    rw [cat_ok (le_big (by omega))]; simp only [Option.bind_some]
    refine ⟨_, _, rfl, ⟨by rw [List.length_append]; omega, by rw [List.length_append]; omega, fun x hx => ?_⟩, hh1⟩
    rcases List.mem_append.mp hx with hx | hx
    · exact hs.2.2 x (cut_mem hx)
    · exact hs.2.2 x (cut_mem hx)

/-! ### a chart -/
def nrm (p : Int × Int) : Int × Int := (min p.1 p.2, max p.1 p.2)
/-- lanes in any direction -/
def LanesG (n : Int) (ls : List (Int × Int)) : Prop := (∀ p ∈ ls, 0 ≤ (nrm p).1 ∧ (nrm p).1 < (nrm p).2 ∧ (nrm p).2 < n) ∧ (ls.map nrm).Nodup ∧ ls.length ≤ 66
def HarbG (n : Int) (t : List Int) : Prop := t.Nodup ∧ (∀ x ∈ t, 0 ≤ x ∧ x < n) ∧ t.length ≤ 12
theorem nrm_up {p : Int × Int} (h : p.1 < p.2) : nrm p = p := Prod.ext (by show min p.1 p.2 = p.1; omega) (by show max p.1 p.2 = p.2; omega)
theorem map_nrm {ls : List (Int × Int)} (h : ∀ p ∈ ls, p.1 < p.2) : ls.map nrm = ls := by
  induction ls with
  | nil => rfl
  | cons p ls ih => rw [List.map_cons, nrm_up (h p (List.mem_cons_self ..)), ih fun q hq => h q (List.mem_cons_of_mem _ hq)]
theorem LanesU.g {n : Int} {ls : List (Int × Int)} (h : LanesU n ls) : LanesG n ls := by
  have e := map_nrm fun p hp => (h.1 p hp).2.1
  exact ⟨fun p hp => by rw [nrm_up (h.1 p hp).2.1]; exact h.1 p hp, by rw [e]; exact h.2.1, h.2.2⟩
theorem PortOk.g {n : Nat} {t : List Int} (h : PortOk n t) (hn : n ≤ 12) : HarbG n t := ⟨lt_nodup h.1, h.2, Nat.le_trans (lt_len h.1 h.2) hn⟩

theorem numbers_ok_0 {xs : List Int} {m g : Int} (h1 : 1 ≤ xs.length) (h2 : (xs.length : Int) ≤ m) (h : ∀ x ∈ xs, 0 ≤ x ∧ x ≤ g) : m_good_numbers_0 xs m g = some true := by
  simp only [m_good_numbers_0]
  refine iff' (by simp; omega) ?_
  refine bd (forR_all fun x hx => ?_) rfl
  have := h x hx
  simp only [m_good_numbers_0_b1]
  exact iff' (by simp; omega) rfl
theorem depths_ok_0 {xs : List Int} (h : DeepOk xs) : m_good_depths_0 xs = some true := by
  simp only [m_good_depths_0]
  exact bd (numbers_ok_0 h.1 (by have := h.2.1; omega) h.2.2) rfl
theorem tide_ok_0 {xs : List Int} (h : TideOk xs) : m_good_tide_0 xs = some true := by
  simp only [m_good_tide_0]
  exact bd (numbers_ok_0 h.1 (by have := h.2.1; omega) h.2.2) rfl
theorem harb_ok_0 {xs : List Int} {n : Int} (h : HarbG n xs) : m_good_harbours_0 xs n = some true := by
  simp only [m_good_harbours_0, m_is_zone_0]
  refine bd (bd (forR_thru (fun pre => pre) rfl fun pre x suf e => ?_) rfl) rfl
  have hx := h.2.1 x (mem_mid e)
  have hl : pre.length ≤ 12 := by have := congrArg List.length e; rw [List.length_append] at this; have := h.2.2; omega
  have hc := contains_false (nodup_mid e h.1)
  simp only [m_is_zone_0_b1]
  refine iff' (by rw [hc]; simp; omega) ?_
  refine bd (show sadd pre x = some (pre ++ [x]) from ?_) rfl
  unfold sadd
  rw [if_pos (by omega), hc]; rfl
theorem lanes_ok_0 {ls : List (Int × Int)} {n : Int} (h : LanesG n ls) : m_good_lanes_0 ls n = some true := by
  simp only [m_good_lanes_0]
  refine bd (forR_thru (fun pre => pre.map nrm) rfl fun pre x suf e => ?_) rfl
  have hx := h.1 x (mem_mid e)
  have hl : pre.length ≤ 66 := by have := congrArg List.length e; rw [List.length_append] at this; have := h.2.2; omega
  have hc : (pre.map nrm).contains (nrm x) = false := contains_false (nodup_mid (xs := ls.map nrm) (suf := suf.map nrm) (by rw [e, List.map_append, List.map_cons]) h.2.1)
  simp only [m_good_lanes_0_b1, pyLet]
  have c1 : ¬ (min x.1 x.2 : Int) < 0 := by have := hx.1; unfold nrm at this; simp only at this; omega
  have c2 : ¬ n ≤ (max x.1 x.2 : Int) := by have := hx.2.2; unfold nrm at this; simp only at this; omega
  have c3 : ¬ (min x.1 x.2 : Int) = (max x.1 x.2 : Int) := by have := hx.2.1; unfold nrm at this; simp only at this; omega
  refine bd (iff' (decide_eq_false c1) (iff' (decide_eq_false c2) (iff' (decide_eq_false c3) (congrArg some hc)))) ?_
  refine iff' rfl ?_
  refine bd (show saddP (pre.map nrm) (nrm x) = some (pre.map nrm ++ [nrm x]) from ?_) (by rw [List.map_append]; rfl)
  unfold saddP
  rw [if_pos (by rw [List.length_map]; omega), hc]; rfl
theorem ordered_ok_0 {ls : List (Int × Int)} (h : ls.length ≤ 66) : m_ordered_lanes_0 ls = some (sortP (ls.map nrm)) := by
  simp only [m_ordered_lanes_0]
  refine bd (forN_thru (fun pre => pre.map nrm) rfl fun pre x suf e => ?_) rfl
  have hl : pre.length ≤ 66 := by have := congrArg List.length e; rw [List.length_append] at this; omega
  simp only [m_ordered_lanes_0_b1]
  refine bd (app_ok (xs := pre.map nrm) (lt_big (by rw [List.length_map]; omega))) (by rw [List.map_append]; rfl)


theorem numbers_ok_1 {xs : List Int} {m g : Int} (h1 : 1 ≤ xs.length) (h2 : (xs.length : Int) ≤ m) (h : ∀ x ∈ xs, 0 ≤ x ∧ x ≤ g) : m_good_numbers_1 xs m g = some true := by
  simp only [m_good_numbers_1]
  refine iff' (by simp; omega) ?_
  refine bd (forR_all fun x hx => ?_) rfl
  have := h x hx
  simp only [m_good_numbers_1_b1]
  exact iff' (by simp; omega) rfl
theorem depths_ok_1 {xs : List Int} (h : DeepOk xs) : m_good_depths_1 xs = some true := by
  simp only [m_good_depths_1]
  exact bd (numbers_ok_1 h.1 (by have := h.2.1; omega) h.2.2) rfl
theorem tide_ok_1 {xs : List Int} (h : TideOk xs) : m_good_tide_1 xs = some true := by
  simp only [m_good_tide_1]
  exact bd (numbers_ok_1 h.1 (by have := h.2.1; omega) h.2.2) rfl
theorem harb_ok_1 {xs : List Int} {n : Int} (h : HarbG n xs) : m_good_harbours_1 xs n = some true := by
  simp only [m_good_harbours_1, m_is_zone_1]
  refine bd (bd (forR_thru (fun pre => pre) rfl fun pre x suf e => ?_) rfl) rfl
  have hx := h.2.1 x (mem_mid e)
  have hl : pre.length ≤ 12 := by have := congrArg List.length e; rw [List.length_append] at this; have := h.2.2; omega
  have hc := contains_false (nodup_mid e h.1)
  simp only [m_is_zone_1_b1]
  refine iff' (by rw [hc]; simp; omega) ?_
  refine bd (show sadd pre x = some (pre ++ [x]) from ?_) rfl
  unfold sadd
  rw [if_pos (by omega), hc]; rfl
theorem lanes_ok_1 {ls : List (Int × Int)} {n : Int} (h : LanesG n ls) : m_good_lanes_1 ls n = some true := by
  simp only [m_good_lanes_1]
  refine bd (forR_thru (fun pre => pre.map nrm) rfl fun pre x suf e => ?_) rfl
  have hx := h.1 x (mem_mid e)
  have hl : pre.length ≤ 66 := by have := congrArg List.length e; rw [List.length_append] at this; have := h.2.2; omega
  have hc : (pre.map nrm).contains (nrm x) = false := contains_false (nodup_mid (xs := ls.map nrm) (suf := suf.map nrm) (by rw [e, List.map_append, List.map_cons]) h.2.1)
  simp only [m_good_lanes_1_b1, pyLet]
  have c1 : ¬ (min x.1 x.2 : Int) < 0 := by have := hx.1; unfold nrm at this; simp only at this; omega
  have c2 : ¬ n ≤ (max x.1 x.2 : Int) := by have := hx.2.2; unfold nrm at this; simp only at this; omega
  have c3 : ¬ (min x.1 x.2 : Int) = (max x.1 x.2 : Int) := by have := hx.2.1; unfold nrm at this; simp only at this; omega
  refine bd (iff' (decide_eq_false c1) (iff' (decide_eq_false c2) (iff' (decide_eq_false c3) (congrArg some hc)))) ?_
  refine iff' rfl ?_
  refine bd (show saddP (pre.map nrm) (nrm x) = some (pre.map nrm ++ [nrm x]) from ?_) (by rw [List.map_append]; rfl)
  unfold saddP
  rw [if_pos (by rw [List.length_map]; omega), hc]; rfl
theorem ordered_ok_1 {ls : List (Int × Int)} (h : ls.length ≤ 66) : m_ordered_lanes_1 ls = some (sortP (ls.map nrm)) := by
  simp only [m_ordered_lanes_1]
  refine bd (forN_thru (fun pre => pre.map nrm) rfl fun pre x suf e => ?_) rfl
  have hl : pre.length ≤ 66 := by have := congrArg List.length e; rw [List.length_append] at this; omega
  simp only [m_ordered_lanes_1_b1]
  refine bd (app_ok (xs := pre.map nrm) (lt_big (by rw [List.length_map]; omega))) (by rw [List.map_append]; rfl)

/-- the neighbours of a place, in the order of the lanes -/
def nbOf (ls : List (Int × Int)) (p : Int) : List Int := ls.flatMap fun q => if q.1 = p then [q.2] else if q.2 = p then [q.1] else []
theorem nbOf_le (ls : List (Int × Int)) (p : Int) : (nbOf ls p).length ≤ ls.length := flat_le (fun q => by by_cases h1 : q.1 = p <;> by_cases h2 : q.2 = p <;> simp [h1, h2]) ls
def rowsOf (n : Nat) (ls : List (Int × Int)) : List (List Int) := (List.range n).map fun (k : Nat) => nbOf ls (k : Int)
theorem nbOf_app (ls : List (Int × Int)) (q : Int × Int) (p : Int) : nbOf (ls ++ [q]) p = nbOf ls p ++ (if q.1 = p then [q.2] else if q.2 = p then [q.1] else []) := by
  unfold nbOf
  rw [List.flatMap_append, List.flatMap_cons, List.flatMap_nil, List.append_nil]
theorem rowsOf_at {n : Nat} {ls : List (Int × Int)} {k : Nat} (h : k < n) : (rowsOf n ls)[k]? = some (nbOf ls (k : Int)) := by
  unfold rowsOf
  rw [List.getElem?_map, List.getElem?_range h]; rfl
theorem rowsOf_len (n : Nat) (ls : List (Int × Int)) : (rowsOf n ls).length = n := by unfold rowsOf; rw [List.length_map, List.length_range]
theorem appIn_ok {α : Type} {xs : List (List α)} {i : Int} {x : α} {row : List α} (h0 : 0 ≤ i) (hr : xs[i.toNat]? = some row) (hl : row.length ≤ 100000) : appIn xs i x = some (xs.set i.toNat (row ++ [x])) := by
  have hj : i.toNat < xs.length := (List.getElem?_eq_some_iff.mp hr).1
  unfold appIn ixN
  rw [if_pos h0, if_pos (by omega), Option.bind_some, hr, Option.bind_some, app_ok (lt_big hl)]; rfl
theorem joined_ok {n : Nat} {ls : List (Int × Int)} (hn : n ≤ 100) (hl : ls.length ≤ 66) (h : ∀ p ∈ ls, 0 ≤ p.1 ∧ p.1 < p.2 ∧ p.2 < n) : m_joined_places (n : Int) ls = some (rowsOf n ls) := by
  simp only [m_joined_places]
  rw [rngO_ok (by decide) (by decide) (by omega) (by omega)]; simp only [Option.bind_some]
  rw [forN_thru (f := m_joined_places_b1) (s0 := ([] : List (List Int))) (fun pre => (pre.map fun _ => ([] : List Int))) rfl (fun pre x suf e => by
    have hl2 : pre.length ≤ 100 := by have := congrArg List.length e; rw [List.length_append, rng_length] at this; omega
    simp only [m_joined_places_b1]
    exact bd (app_ok (xs := pre.map fun _ => ([] : List Int)) (lt_big (by rw [List.length_map]; omega))) (by rw [List.map_append]; rfl))]
  simp only [Option.bind_some]
  have e0 : (rng 0 (n : Int)).map (fun _ => ([] : List Int)) = rowsOf n [] := by
    unfold rowsOf rng
    rw [List.map_map]
    have : ((n : Int) - 0).toNat = n := by omega
    rw [this]; rfl
  rw [e0]
  rw [forN_thru (f := m_joined_places_b2) (rowsOf n) rfl (fun pre x suf e => by
    obtain ⟨h1, h2, h3⟩ := h x (mem_mid e)
    have hp : pre.length ≤ 66 := by have := congrArg List.length e; rw [List.length_append] at this; omega
    have k1 : x.1.toNat < n := by omega
    have k2 : x.2.toNat < n := by omega
    have i1 : ((x.1.toNat : Nat) : Int) = x.1 := by omega
    have i2 : ((x.2.toNat : Nat) : Int) = x.2 := by omega
    have r1 := rowsOf_at (ls := pre) k1
    have r2 := rowsOf_at (ls := pre) k2
    rw [i1] at r1; rw [i2] at r2
    simp only [m_joined_places_b2]
    refine bd (at_int h1 r1) ?_
    refine bd (appIn_ok h1 r1 (Nat.le_trans (nbOf_le _ _) (by omega))) ?_
    have r3 : ((rowsOf n pre).set x.1.toNat (nbOf pre x.1 ++ [x.2]))[x.2.toNat]? = some (nbOf pre x.2) := by
      rw [List.getElem?_set_ne (by omega)]; exact r2
    refine bd (at_int (by omega) r3) ?_
    refine bd (appIn_ok (by omega) r3 (Nat.le_trans (nbOf_le _ _) (by omega))) ?_
    congr 1
    apply List.ext_getElem?
    intro k
    by_cases hk : k < n
    · rw [rowsOf_at hk, nbOf_app]
      by_cases c2 : x.2.toNat = k
      · subst c2
        rw [List.getElem?_set_self (by rw [List.length_set, rowsOf_len]; exact hk), i2, if_neg (by omega), if_pos rfl]
      · rw [List.getElem?_set_ne c2]
        by_cases c1 : x.1.toNat = k
        · subst c1
          rw [List.getElem?_set_self (by rw [rowsOf_len]; exact hk), i1, if_pos rfl]
        · rw [List.getElem?_set_ne c1, rowsOf_at hk, if_neg (by omega), if_neg (by omega), List.append_nil]
    · rw [List.getElem?_eq_none (by rw [List.length_set, List.length_set, rowsOf_len]; omega), List.getElem?_eq_none (by rw [rowsOf_len]; omega)])]
  simp only [Option.bind_some]
  rw [forN_thru (f := m_joined_places_b3) (s0 := ([] : List (List Int))) (fun pre => pre) rfl (fun pre x suf e => by
    have hl2 : pre.length ≤ 100 := by have := congrArg List.length e; rw [List.length_append, rowsOf_len] at this; omega
    simp only [m_joined_places_b3]
    exact bd (app_ok (xs := pre) (lt_big (by omega))) rfl)]
  simp only [Option.bind_some]
theorem sortP_mem {xs : List (Int × Int)} {p : Int × Int} : p ∈ sortP xs ↔ p ∈ xs := (List.mergeSort_perm xs leP).mem_iff
theorem sortP_len {xs : List (Int × Int)} : (sortP xs).length = xs.length := (List.mergeSort_perm xs leP).length_eq
abbrev ChT := Int × List Int × List (Int × Int) × List Int × List Int × List (List Int)
/-- what a chart holds -/
def chOf (d : List Int) (ls : List (Int × Int)) (t hs : List Int) : ChT := ((d.length : Int), d, sortP (ls.map nrm), t, sortI hs, rowsOf d.length (sortP (ls.map nrm)))
theorem joined_of {n : Nat} {ls : List (Int × Int)} (hn : n ≤ 12) (h : LanesG n ls) : m_joined_places (n : Int) (sortP (ls.map nrm)) = some (rowsOf n (sortP (ls.map nrm))) :=
  joined_ok (by omega) (by rw [sortP_len, List.length_map]; exact h.2.2) (fun p hp => by
    rw [sortP_mem, List.mem_map] at hp
    obtain ⟨q, hq, rfl⟩ := hp
    exact h.1 q hq)

/-! ### lists that ascend -/
theorem asc_ext {α : Type} {r : α → α → Prop} (asy : ∀ a b, r a b → r b a → False) : ∀ {xs ys : List α}, xs.Pairwise r → ys.Pairwise r → (∀ a, a ∈ xs ↔ a ∈ ys) → xs = ys
  | [], [], _, _, _ => rfl
  | [], y :: ys, _, _, h => absurd ((h y).mpr (List.mem_cons_self ..)) List.not_mem_nil
  | x :: xs, [], _, _, h => absurd ((h x).mp (List.mem_cons_self ..)) List.not_mem_nil
  | x :: xs, y :: ys, h1, h2, h => by
    have p1 := List.pairwise_cons.mp h1
    have p2 := List.pairwise_cons.mp h2
    have e : x = y := by
      rcases List.mem_cons.mp ((h x).mp (List.mem_cons_self ..)) with e | e
      · exact e
      · rcases List.mem_cons.mp ((h y).mpr (List.mem_cons_self ..)) with e2 | e2
        · exact e2.symm
        · exact (asy _ _ (p1.1 y e2) (p2.1 x e)).elim
    subst e
    rw [asc_ext asy p1.2 p2.2 fun a => ?_]
    constructor
    · intro ha
      rcases List.mem_cons.mp ((h a).mp (List.mem_cons_of_mem _ ha)) with e | e
      · subst e; exact (asy _ _ (p1.1 a ha) (p1.1 a ha)).elim
      · exact e
    · intro ha
      rcases List.mem_cons.mp ((h a).mpr (List.mem_cons_of_mem _ ha)) with e | e
      · subst e; exact (asy _ _ (p2.1 a ha) (p2.1 a ha)).elim
      · exact e
theorem asc_extI {xs ys : List Int} (h1 : xs.Pairwise (· < ·)) (h2 : ys.Pairwise (· < ·)) (h : ∀ a, a ∈ xs ↔ a ∈ ys) : xs = ys := asc_ext (fun a b h h' => by omega) h1 h2 h
def ltP (a b : Int × Int) : Prop := a.1 < b.1 ∨ (a.1 = b.1 ∧ a.2 < b.2)
theorem asc_extP {xs ys : List (Int × Int)} (h1 : xs.Pairwise ltP) (h2 : ys.Pairwise ltP) (h : ∀ a, a ∈ xs ↔ a ∈ ys) : xs = ys := asc_ext (fun a b h h' => by unfold ltP at *; omega) h1 h2 h
theorem pw_flat {α β : Type} {r : β → β → Prop} {f : α → List β} : ∀ {xs : List α}, (∀ a ∈ xs, (f a).Pairwise r) → xs.Pairwise (fun a b => ∀ x ∈ f a, ∀ y ∈ f b, r x y) → (xs.flatMap f).Pairwise r
  | [], _, _ => .nil
  | a :: xs, h1, h2 => by
    have pc := List.pairwise_cons.mp h2
    rw [List.flatMap_cons, List.pairwise_append]
    refine ⟨h1 a (List.mem_cons_self ..), pw_flat (fun b hb => h1 b (List.mem_cons_of_mem _ hb)) pc.2, fun x hx y hy => ?_⟩
    obtain ⟨b, hb, hyb⟩ := List.mem_flatMap.mp hy
    exact pc.1 b hb x hx y hyb
theorem pw_imp {α : Type} {r q : α → α → Prop} : ∀ {xs : List α}, xs.Pairwise r → (∀ a ∈ xs, ∀ b ∈ xs, r a b → q a b) → xs.Pairwise q
  | [], _, _ => .nil
  | x :: xs, h, k => by
    have pc := List.pairwise_cons.mp h
    exact List.pairwise_cons.mpr ⟨fun y hy => k x (List.mem_cons_self ..) y (List.mem_cons_of_mem _ hy) (pc.1 y hy), pw_imp pc.2 fun a ha b hb => k a (List.mem_cons_of_mem _ ha) b (List.mem_cons_of_mem _ hb)⟩
theorem pw_and {α : Type} {r q : α → α → Prop} : ∀ {xs : List α}, xs.Pairwise r → xs.Pairwise q → xs.Pairwise (fun a b => r a b ∧ q a b)
  | [], _, _ => .nil
  | x :: xs, h, k => by
    have p1 := List.pairwise_cons.mp h
    have p2 := List.pairwise_cons.mp k
    exact List.pairwise_cons.mpr ⟨fun y hy => ⟨p1.1 y hy, p2.1 y hy⟩, pw_and p1.2 p2.2⟩
theorem leP_mi {a b : Int × Int} : leP a b = true ↔ (a.1 < b.1 ∨ (a.1 = b.1 ∧ a.2 ≤ b.2)) := by unfold leP; exact decide_eq_true_iff
theorem sortP_lt {xs : List (Int × Int)} (h : xs.Nodup) : (sortP xs).Pairwise ltP := by
  have h1 : (sortP xs).Pairwise (fun a b => leP a b = true) := List.pairwise_mergeSort (le := leP) (fun a b c h1 h2 => by rw [leP_mi] at *; omega) (fun a b => by rw [Bool.or_eq_true, leP_mi, leP_mi]; omega) xs
  have h2 : (sortP xs).Nodup := (List.mergeSort_perm xs leP).nodup_iff.mpr h
  exact List.Pairwise.imp (fun {a b} z => by
    have z1 := leP_mi.mp z.1
    have z2 : a ≠ b := z.2
    unfold ltP
    by_cases e : a.1 = b.1
    · by_cases e2 : a.2 = b.2
      · exact absurd (Prod.ext e e2) z2
      · omega
    · omega) (pw_and h1 h2)
theorem nb_mem {ls : List (Int × Int)} (hl : ∀ p ∈ ls, p.1 < p.2) {p q : Int} : q ∈ nbOf ls p ↔ ((p, q) ∈ ls ∨ (q, p) ∈ ls) := by
  unfold nbOf
  rw [List.mem_flatMap]
  constructor
  · rintro ⟨l, h1, h2⟩
    by_cases c1 : l.1 = p
    · rw [if_pos c1, List.mem_singleton] at h2
      exact .inl (by rw [show (p, q) = l from Prod.ext c1.symm h2]; exact h1)
    · rw [if_neg c1] at h2
      by_cases c2 : l.2 = p
      · rw [if_pos c2, List.mem_singleton] at h2
        exact .inr (by rw [show (q, p) = l from Prod.ext h2 c2.symm]; exact h1)
      · rw [if_neg c2] at h2; exact absurd h2 List.not_mem_nil
  · rintro (h | h)
    · exact ⟨_, h, by rw [if_pos rfl]; exact List.mem_singleton.mpr rfl⟩
    · have := hl _ h
      exact ⟨_, h, by rw [if_neg (by show ¬ q = p; simp only at this; omega), if_pos rfl]; exact List.mem_singleton.mpr rfl⟩
theorem nb_asc {ls : List (Int × Int)} (hl : ∀ p ∈ ls, p.1 < p.2) (hs : ls.Pairwise ltP) (p : Int) : (nbOf ls p).Pairwise (· < ·) := by
  unfold nbOf
  refine pw_flat (fun a _ => ?_) (pw_imp hs fun a ha b hb hab x hx y hy => ?_)
  · by_cases c1 : a.1 = p
    · rw [if_pos c1]; exact List.pairwise_singleton ..
    · rw [if_neg c1]
      by_cases c2 : a.2 = p
      · rw [if_pos c2]; exact List.pairwise_singleton ..
      · rw [if_neg c2]; exact .nil
  · have a1 := hl a ha
    have b1 := hl b hb
    unfold ltP at hab
    by_cases c1 : a.1 = p <;> by_cases c2 : a.2 = p <;> by_cases c3 : b.1 = p <;> by_cases c4 : b.2 = p <;> simp [c1, c2, c3, c4] at hx hy <;> omega
theorem LanesG.map {n : Int} {ls : List (Int × Int)} (h : LanesG n ls) : ∀ p ∈ ls.map nrm, 0 ≤ p.1 ∧ p.1 < p.2 ∧ p.2 < n := fun p hp => by
  obtain ⟨q, hq, rfl⟩ := List.mem_map.mp hp
  exact h.1 q hq
/-- the neighbours that a chart tells -/
theorem nb_spec {n : Int} {ls : List (Int × Int)} (h : LanesG n ls) (p : Int) : (nbOf (sortP (ls.map nrm)) p).Pairwise (· < ·) ∧ ∀ q, q ∈ nbOf (sortP (ls.map nrm)) p ↔ ((p, q) ∈ ls.map nrm ∨ (q, p) ∈ ls.map nrm) := by
  have hl : ∀ p ∈ sortP (ls.map nrm), p.1 < p.2 := fun p hp => (h.map p (sortP_mem.mp hp)).2.1
  exact ⟨nb_asc hl (sortP_lt h.2.1) p, fun q => by rw [nb_mem hl, sortP_mem, sortP_mem]⟩
theorem sub_lanes {n : Int} {ls ks : List (Int × Int)} (h : LanesU n ls) (s : ks.Sublist ls) : LanesU n ks := ⟨fun p hp => h.1 p (s.subset hp), s.nodup h.2.1, Nat.le_trans s.length_le h.2.2⟩
theorem thinned_ok {h : List Int} (hh : Hd h) {n m : Int} {ls : List (Int × Int)} (hl : LanesU n ls) (m0 : 1 ≤ m) (m1 : m ≤ 1000) : ∃ ks h', m_l_thinned h ls m = some (ks, h') ∧ LanesU n ks ∧ Hd h' := by
  simp only [m_l_thinned, pyLet]
  obtain ⟨a, h1, e1, a0, a1, hh1⟩ := pick_ok hh (n := m) m0 (by omega)
  rw [e1]; simp only [Option.bind_some]
  obtain ⟨u, eu, u1, u2⟩ := forN_ind (f := m_l_thinned_b1 (1 + a)) (xs := ls) (s0 := (([] : List (Int × Int)), h1)) (fun pre t => Hd t.2 ∧ t.1.Sublist pre) ⟨hh1, List.Sublist.refl _⟩ (fun pre x suf t e hp => by
    obtain ⟨t1, t2⟩ := hp
    have hpl : pre.length ≤ 66 := by have := congrArg List.length e; rw [List.length_append] at this; have := hl.2.2; omega
    have htl := t2.length_le
    obtain ⟨z, h5, e7, z0, z1, hh5⟩ := pick_ok t1 (n := 1 + a) (by omega) (by omega)
    simp only [m_l_thinned_b1]
    rw [e7]; simp only [Option.bind_some]
    by_cases c : z = 0
    · exact ⟨_, ift (decide_eq_true c) (bd (app_ok (xs := t.1) (lt_big (by omega))) rfl), hh5, t2.append (List.Sublist.refl _)⟩
    · exact ⟨_, iff' (decide_eq_false c) rfl, hh5, t2.trans (List.sublist_append_left _ _)⟩)
  rw [eu]; simp only [Option.bind_some]
  exact ⟨_, _, rfl, sub_lanes hl u2, u1⟩

theorem init_ok_0 {d t hs : List Int} {ls : List (Int × Int)} (hd : DeepOk d) (hl : LanesG d.length ls) (ht : TideOk t) (hh : HarbG d.length hs) : m_Chart_init_0 d ls t hs = some (chOf d ls t hs) := by
  simp only [m_Chart_init_0]
  refine bd (depths_ok_0 hd) (iff' rfl ?_)
  refine bd (lanes_ok_0 hl) (iff' rfl ?_)
  refine bd (tide_ok_0 ht) (iff' rfl ?_)
  refine bd (harb_ok_0 hh) (iff' rfl ?_)
  refine bd (ordered_ok_0 hl.2.2) ?_
  exact bd (joined_of hd.2.1 hl) rfl
theorem init_ok_1 {d t hs : List Int} {ls : List (Int × Int)} (hd : DeepOk d) (hl : LanesG d.length ls) (ht : TideOk t) (hh : HarbG d.length hs) : m_Chart_init_1 d ls t hs = some (chOf d ls t hs) := by
  simp only [m_Chart_init_1]
  refine bd (depths_ok_1 hd) (iff' rfl ?_)
  refine bd (lanes_ok_1 hl) (iff' rfl ?_)
  refine bd (tide_ok_1 ht) (iff' rfl ?_)
  refine bd (harb_ok_1 hh) (iff' rfl ?_)
  refine bd (ordered_ok_1 hl.2.2) ?_
  exact bd (joined_of hd.2.1 hl) rfl
theorem nrm_swap (a b : Int) : nrm (b, a) = nrm (a, b) := Prod.ext (by show min b a = min a b; omega) (by show max b a = max a b; omega)
theorem flipped_ok {h : List Int} (hh : Hd h) {ls : List (Int × Int)} (hl : ls.length ≤ 66) : ∃ ks h', m_l_flipped h ls = some (ks, h') ∧ ks.map nrm = ls.map nrm ∧ Hd h' := by
  simp only [m_l_flipped]
  obtain ⟨u, eu, u1, u2⟩ := forN_ind (f := m_l_flipped_b1) (xs := ls) (s0 := (h, ([] : List (Int × Int)))) (fun pre t => Hd t.1 ∧ t.2.map nrm = pre.map nrm) ⟨hh, rfl⟩ (fun pre x suf t e hp => by
    obtain ⟨t1, t2⟩ := hp
    have hpl : pre.length ≤ 66 := by have := congrArg List.length e; rw [List.length_append] at this; omega
    have htl : t.2.length = pre.length := by have := congrArg List.length t2; rw [List.length_map, List.length_map] at this; exact this
    obtain ⟨z, h5, e7, z0, z1, hh5⟩ := pick_ok t1 (n := 2) (by decide) (by decide)
    simp only [m_l_flipped_b1]
    rw [e7]; simp only [Option.bind_some]
    by_cases c : z = 0
    · exact ⟨_, bd (ift (decide_eq_true c) (bd (app_ok (xs := t.2) (lt_big (by omega))) rfl)) rfl, hh5, by show (t.2 ++ [x]).map nrm = _; rw [List.map_append, List.map_append, t2]⟩
    · refine ⟨_, bd (iff' (decide_eq_false c) (bd (app_ok (xs := t.2) (lt_big (by omega))) rfl)) rfl, hh5, ?_⟩
      show (t.2 ++ [(x.2, x.1)]).map nrm = _
      rw [List.map_append, List.map_append, t2, List.map_cons, List.map_cons, nrm_swap])
  rw [eu]; simp only [Option.bind_some]
  exact ⟨_, _, rfl, u2, u1⟩
theorem erase_perm {α : Type} : ∀ (xs : List α) (k : Nat) (h : k < xs.length), (xs[k] :: xs.eraseIdx k).Perm xs
  | [], _, h => absurd h (Nat.not_lt_zero _)
  | x :: xs, 0, _ => List.Perm.refl _
  | x :: xs, k + 1, h => by
    show (xs[k]'(Nat.lt_of_succ_lt_succ h) :: x :: xs.eraseIdx k).Perm (x :: xs)
    exact (List.Perm.swap _ _ _).trans (List.Perm.cons x (erase_perm xs k (Nat.lt_of_succ_lt_succ h)))
theorem popAt_perm {α : Type} {xs : List α} {i : Int} (h0 : 0 ≤ i) (h1 : i < xs.length) : ∃ x, popAt xs i = some (x, xs.eraseIdx i.toNat) ∧ (x :: xs.eraseIdx i.toNat).Perm xs := by
  have hj : i.toNat < xs.length := by omega
  refine ⟨xs[i.toNat], ?_, erase_perm xs _ hj⟩
  unfold popAt ixN
  rw [if_pos h0, if_pos h1, Option.bind_some, List.getElem?_eq_getElem hj]
  rfl
theorem stirred_ok_0 {h : List Int} (hh : Hd h) {ls : List Int} (hl : ls.length ≤ 66) : ∃ ks h', m_l_stirred_0 h ls = some (ks, h') ∧ ks.Perm ls ∧ Hd h' := by
  simp only [m_l_stirred_0]
  rw [rngO_ok (by decide) (by decide) (by omega) (by omega)]; simp only [Option.bind_some]
  obtain ⟨u, eu, u1, u2, u3⟩ := forN_ind (f := m_l_stirred_0_b1) (xs := rng 0 (ls.length : Int)) (s0 := (h, ls, ([] : List Int))) (fun pre t => Hd t.1 ∧ t.2.1.length + pre.length = ls.length ∧ (t.2.2 ++ t.2.1).Perm ls) ⟨hh, rfl, List.Perm.refl _⟩ (fun pre x suf t e hp => by
    obtain ⟨t1, t2, t3⟩ := hp
    have hpl : pre.length < ls.length := by have := congrArg List.length e; rw [List.length_append, rng_length, List.length_cons] at this; omega
    have ho : t.2.2.length ≤ 66 := by have := t3.length_eq; rw [List.length_append] at this; omega
    obtain ⟨z, h5, e7, z0, z1, hh5⟩ := pick_ok t1 (n := (t.2.1.length : Int)) (by omega) (by omega)
    obtain ⟨y, ey, py⟩ := popAt_perm z0 z1
    simp only [m_l_stirred_0_b1]
    rw [e7]; simp only [Option.bind_some]
    refine ⟨_, bd (guard_ok (decide_eq_true (le_big (by omega)))) (bd ey (bd (app_ok (xs := t.2.2) (lt_big (by omega))) rfl)), hh5, ?_, ?_⟩
    · have := py.length_eq; rw [List.length_cons] at this; rw [List.length_append]; show (t.2.1.eraseIdx z.toNat).length + (pre.length + 1) = _; omega
    · show ((t.2.2 ++ [y]) ++ t.2.1.eraseIdx z.toNat).Perm ls
      rw [List.append_assoc]
      exact (List.Perm.append_left _ py).trans t3)
  rw [eu]; simp only [Option.bind_some]
  rw [rng_length] at u2
  have hz : u.2.1 = [] := List.length_eq_zero_iff.mp (by omega)
  rw [hz, List.append_nil] at u3
  exact ⟨_, _, rfl, u3, u1⟩
theorem stirred_ok_1 {h : List Int} (hh : Hd h) {ls : List (Int × Int)} (hl : ls.length ≤ 66) : ∃ ks h', m_l_stirred_1 h ls = some (ks, h') ∧ ks.Perm ls ∧ Hd h' := by
  simp only [m_l_stirred_1]
  rw [rngO_ok (by decide) (by decide) (by omega) (by omega)]; simp only [Option.bind_some]
  obtain ⟨u, eu, u1, u2, u3⟩ := forN_ind (f := m_l_stirred_1_b1) (xs := rng 0 (ls.length : Int)) (s0 := (h, ls, ([] : List (Int × Int)))) (fun pre t => Hd t.1 ∧ t.2.1.length + pre.length = ls.length ∧ (t.2.2 ++ t.2.1).Perm ls) ⟨hh, rfl, List.Perm.refl _⟩ (fun pre x suf t e hp => by
    obtain ⟨t1, t2, t3⟩ := hp
    have hpl : pre.length < ls.length := by have := congrArg List.length e; rw [List.length_append, rng_length, List.length_cons] at this; omega
    have ho : t.2.2.length ≤ 66 := by have := t3.length_eq; rw [List.length_append] at this; omega
    obtain ⟨z, h5, e7, z0, z1, hh5⟩ := pick_ok t1 (n := (t.2.1.length : Int)) (by omega) (by omega)
    obtain ⟨y, ey, py⟩ := popAt_perm z0 z1
    simp only [m_l_stirred_1_b1]
    rw [e7]; simp only [Option.bind_some]
    refine ⟨_, bd (guard_ok (decide_eq_true (le_big (by omega)))) (bd ey (bd (app_ok (xs := t.2.2) (lt_big (by omega))) rfl)), hh5, ?_, ?_⟩
    · have := py.length_eq; rw [List.length_cons] at this; rw [List.length_append]; show (t.2.1.eraseIdx z.toNat).length + (pre.length + 1) = _; omega
    · show ((t.2.2 ++ [y]) ++ t.2.1.eraseIdx z.toNat).Perm ls
      rw [List.append_assoc]
      exact (List.Perm.append_left _ py).trans t3)
  rw [eu]; simp only [Option.bind_some]
  rw [rng_length] at u2
  have hz : u.2.1 = [] := List.length_eq_zero_iff.mp (by omega)
  rw [hz, List.append_nil] at u3
  exact ⟨_, _, rfl, u3, u1⟩
theorem row_ok_0 {xs : List Int} (h : xs.length ≤ 1000) : m_l_row_0 xs xs = some true := by
  simp only [m_l_row_0]
  refine iff' (by simp) ?_
  rw [rngO_ok (by decide) (by decide) (by omega) (by omega)]; simp only [Option.bind_some]
  refine bd (forR_all fun k hk => ?_) rfl
  have hk := mem_rng.mp hk
  obtain ⟨y, ey, _⟩ := at_some hk.1 hk.2
  simp only [m_l_row_0_b1]
  refine bd (x := false) (bd ey (bd rfl (iff' rfl (bd ey (bd ey (congrArg some (by simp))))))) ?_
  exact iff' rfl rfl
theorem row_ok_1 {xs : List Int} (h : xs.length ≤ 1000) : m_l_row_1 xs xs = some true := by
  simp only [m_l_row_1]
  refine iff' (by simp) ?_
  rw [rngO_ok (by decide) (by decide) (by omega) (by omega)]; simp only [Option.bind_some]
  refine bd (forR_all fun k hk => ?_) rfl
  have hk := mem_rng.mp hk
  obtain ⟨y, ey, _⟩ := at_some hk.1 hk.2
  simp only [m_l_row_1_b1]
  refine bd (x := false) (bd ey (bd rfl (iff' rfl (bd ey (bd ey (congrArg some (by simp))))))) ?_
  exact iff' rfl rfl
/-- the chart belongs to the sea -/
def Fits (s : SeaT) (ls : List (Int × Int)) (hs : List Int) : Prop := DeepOk s.1 ∧ LanesU s.1.length s.2.1 ∧ TideOk s.2.2.1 ∧ PortOk s.1.length s.2.2.2 ∧ LanesG s.1.length ls ∧ HarbG s.1.length hs ∧ (∀ p, p ∈ ls.map nrm ↔ p ∈ s.2.1) ∧ ∀ p, p ∈ hs ↔ p ∈ s.2.2.2
theorem sortI_mem {xs : List Int} {a : Int} : a ∈ sortI xs ↔ a ∈ xs := (List.mergeSort_perm xs _).mem_iff
theorem sortI_lt {xs : List Int} (h : xs.Nodup) : (sortI xs).Pairwise (· < ·) := by
  have h1 : (sortI xs).Pairwise (fun a b => decide (a ≤ b) = true) := List.pairwise_mergeSort (le := fun a b : Int => decide (a ≤ b)) (fun a b c h1 h2 => by simp at *; omega) (fun a b => by simp; omega) xs
  have h2 : (sortI xs).Nodup := (List.mergeSort_perm xs _).nodup_iff.mpr h
  exact List.Pairwise.imp (fun {a b} z => by
    have z1 := of_decide_eq_true z.1
    have z2 : a ≠ b := z.2
    omega) (pw_and h1 h2)
theorem filt_mem {f : Int → Bool} {n x : Int} : x ∈ (rng 0 n).flatMap (fun x => if f x = true then [x] else []) ↔ (0 ≤ x ∧ x < n) ∧ f x = true := by
  rw [List.mem_flatMap]
  constructor
  · rintro ⟨y, h1, h2⟩
    by_cases c : f y = true
    · rw [if_pos c, List.mem_singleton] at h2; subst h2; exact ⟨mem_rng.mp h1, c⟩
    · rw [if_neg c] at h2; exact absurd h2 List.not_mem_nil
  · rintro ⟨h1, h2⟩
    exact ⟨x, mem_rng.mpr h1, by rw [if_pos h2]; exact List.mem_singleton.mpr rfl⟩
theorem filt_lt (f : Int → Bool) (n : Int) : ((rng 0 n).flatMap (fun x => if f x = true then [x] else [])).Pairwise (· < ·) :=
  (pairwise_flat (r := (· < ·)) (h := fun x : Int => if f x = true then [x] else []) (fun x => by by_cases h : f x = true <;> simp [h]) (rng_lt 0 n)).1
theorem ordered_is {n : Int} {ls : List (Int × Int)} (h0 : 0 ≤ n) (h1 : n ≤ 12) (hb : ∀ p ∈ ls, 0 ≤ p.1 ∧ p.1 < p.2 ∧ p.2 < n) : ∃ ks, m_l_ordered ls n = some ks ∧ ks.Pairwise ltP ∧ ∀ p, p ∈ ks ↔ p ∈ ls := by
  simp only [m_l_ordered]
  rw [rngO_ok (by decide) (by decide) (by omega) (by omega)]; simp only [Option.bind_some]
  have inner : ∀ a acc, acc.length + 12 ≤ 100000 → m_l_ordered_b1 ls n acc a = some (acc ++ (rng 0 n).flatMap fun b => if ls.contains (a, b) = true then [(a, b)] else []) := by
    intro a acc hacc
    simp only [m_l_ordered_b1]
    rw [rngO_ok (by decide) (by decide) (by omega) (by omega)]; simp only [Option.bind_some]
    refine bd (forN_flatC (fun b => if ls.contains (a, b) = true then [(a, b)] else []) 1 (by rw [rng_length]; omega) (fun x _ => by split <;> simp) fun acc x hx hl => ?_) rfl
    simp only [m_l_ordered_b2]
    by_cases c : ls.contains (a, x) = true
    · exact bd (ift c (bd (app_ok (xs := acc) (lt_big (by omega))) rfl)) (by rw [if_pos c])
    · exact bd (iff' (by simpa using c) rfl) (by rw [if_neg c, List.append_nil])
  have hf := forN_flatC (f := m_l_ordered_b1 ls n) (xs := rng 0 n) (acc := ([] : List (Int × Int))) (fun a => (rng 0 n).flatMap fun b => if ls.contains (a, b) = true then [(a, b)] else []) 12 (by rw [rng_length]; show 0 + 12 * _ ≤ _; omega) (fun a _ => Nat.le_trans (flat_le (fun b => by split <;> simp) _) (by rw [rng_length]; omega)) (fun acc a _ hl => inner a acc hl)
  refine ⟨_, bd hf rfl, ?_, ?_⟩
  · rw [List.nil_append]
    refine pw_flat (fun a _ => pw_flat (fun b _ => ?_) (List.Pairwise.imp (fun {b c} hbc x hx y hy => ?_) (rng_lt 0 n))) (List.Pairwise.imp (fun {a b} hab x hx y hy => ?_) (rng_lt 0 n))
    · split
      · exact List.pairwise_singleton ..
      · exact .nil
    · by_cases c1 : ls.contains (a, b) = true
      · by_cases c2 : ls.contains (a, c) = true
        · rw [if_pos c1, List.mem_singleton] at hx; rw [if_pos c2, List.mem_singleton] at hy; subst hx hy; exact .inr ⟨rfl, hbc⟩
        · rw [if_neg c2] at hy; exact absurd hy List.not_mem_nil
      · rw [if_neg c1] at hx; exact absurd hx List.not_mem_nil
    · obtain ⟨x2, _, hx⟩ := List.mem_flatMap.mp hx
      obtain ⟨y2, _, hy⟩ := List.mem_flatMap.mp hy
      by_cases c1 : ls.contains (a, x2) = true
      · by_cases c2 : ls.contains (b, y2) = true
        · rw [if_pos c1, List.mem_singleton] at hx; rw [if_pos c2, List.mem_singleton] at hy; subst hx hy; exact .inl hab
        · rw [if_neg c2] at hy; exact absurd hy List.not_mem_nil
      · rw [if_neg c1] at hx; exact absurd hx List.not_mem_nil
  · intro p
    rw [List.nil_append, List.mem_flatMap]
    constructor
    · rintro ⟨a, _, ha⟩
      obtain ⟨b, _, hb⟩ := List.mem_flatMap.mp ha
      by_cases c1 : ls.contains (a, b) = true
      · rw [if_pos c1, List.mem_singleton] at hb; subst hb; exact List.contains_iff_mem.mp c1
      · rw [if_neg c1] at hb; exact absurd hb List.not_mem_nil
    · intro hp
      have := hb p hp
      refine ⟨p.1, mem_rng.mpr (by omega), List.mem_flatMap.mpr ⟨p.2, mem_rng.mpr (by omega), ?_⟩⟩
      rw [if_pos (contains_true (show (p.1, p.2) ∈ ls from hp))]; exact List.mem_singleton.mpr rfl
theorem parts_ok {s : SeaT} {ls : List (Int × Int)} {hs : List Int} (h : Fits s ls hs) : m_l_parts (chOf s.1 ls s.2.2.1 hs) s = some true := by
  obtain ⟨h1, h2, h3, h4, h5, h6, h7, h8⟩ := h
  have dl := h1.2.1
  have tl := h3.2.1
  simp only [m_l_parts, pyLet, chOf]
  refine bd (x := false) (bd rfl (iff' rfl (congrArg some (by simp)))) (iff' rfl ?_)
  refine bd (x := false) (bd (row_ok_0 (by omega)) (iff' rfl (bd (row_ok_0 (by omega)) rfl))) (iff' rfl ?_)
  rw [rngO_ok (by decide) (by decide) (by omega) (by omega)]; simp only [Option.bind_some]
  have hf := forN_flat (f := m_l_parts_b1 s) (xs := rng 0 (s.1.length : Int)) (acc := ([] : List Int)) (fun x => if s.2.2.2.contains x = true then [x] else []) (fun x => by split <;> simp) (le_big (by rw [rng_length]; show 0 + _ ≤ _; omega)) (fun acc x _ hb => by
    simp only [m_l_parts_b1]
    by_cases c : s.2.2.2.contains x = true
    · rw [if_pos c, if_pos c, app_ok hb]; rfl
    · rw [if_neg c, if_neg c, List.append_nil])
  rw [List.nil_append] at hf
  refine bd hf ?_
  have e1 : ((rng 0 (s.1.length : Int)).flatMap fun x => if s.2.2.2.contains x = true then [x] else []) = sortI hs := by
    refine asc_extI (filt_lt _ _) (sortI_lt h6.1) fun a => ?_
    rw [filt_mem, sortI_mem, h8, List.contains_iff_mem]
    exact ⟨fun z => z.2, fun z => ⟨h4.2 a z, z⟩⟩
  rw [e1]
  have hsl : (sortI hs).length ≤ 12 := by rw [show (sortI hs).length = hs.length from (List.mergeSort_perm hs _).length_eq]; exact h6.2.2
  refine bd (row_ok_0 (by omega)) (iff' rfl ?_)
  obtain ⟨ks, ek, k1, k2⟩ := ordered_is (n := (s.1.length : Int)) (ls := s.2.1) (by omega) (by omega) h2.1
  refine bd ek ?_
  have e2 : ks = sortP (ls.map nrm) := asc_extP k1 (sortP_lt h5.2.1) fun a => by rw [k2, sortP_mem, h7]
  rw [e2]
  have kl : (sortP (ls.map nrm)).length ≤ 66 := by rw [sortP_len, List.length_map]; exact h5.2.2
  refine iff' (by simp) ?_
  rw [rngO_ok (by decide) (by decide) (by omega) (by omega)]; simp only [Option.bind_some]
  refine bd (forR_all fun k hk => ?_) rfl
  have hk := mem_rng.mp hk
  obtain ⟨y, ey, _⟩ := at_some hk.1 hk.2
  simp only [m_l_parts_b2]
  refine bd ey (bd ey (bd (row_ok_1 (by exact Nat.le_of_ble_eq_true rfl)) (iff' rfl rfl)))
theorem around_ok {s : SeaT} {ls : List (Int × Int)} {hs : List Int} (h : Fits s ls hs) : m_l_around (chOf s.1 ls s.2.2.1 hs) s = some true := by
  obtain ⟨h1, h2, h3, h4, h5, h6, h7, h8⟩ := h
  have dl := h1.2.1
  simp only [m_l_around]
  rw [rngO_ok (by decide) (by decide) (by omega) (by omega)]; simp only [Option.bind_some]
  refine bd (forR_all fun p hp => ?_) rfl
  have hp := mem_rng.mp hp
  have hpn : p.toNat < s.1.length := by omega
  have hpe : ((p.toNat : Nat) : Int) = p := by omega
  have er : at_ (rowsOf s.1.length (sortP (ls.map nrm))) p = some (nbOf (sortP (ls.map nrm)) p) := at_int hp.1 (by rw [rowsOf_at hpn, hpe])
  have en : m_Chart_neighbours (chOf s.1 ls s.2.2.1 hs) p = some (nbOf (sortP (ls.map nrm)) p) := by
    simp only [m_Chart_neighbours, chOf]
    exact bd er rfl
  obtain ⟨n1, n2⟩ := nb_spec h5 p
  have eb : m_l_beside s p = some (nbOf (sortP (ls.map nrm)) p) := by
    simp only [m_l_beside]
    rw [rngO_ok (by decide) (by decide) (by omega) (by omega)]; simp only [Option.bind_some]
    have hf := forN_flat (f := m_l_beside_b1 s p) (xs := rng 0 (s.1.length : Int)) (acc := ([] : List Int)) (fun x => if (s.2.1.contains (p, x) || s.2.1.contains (x, p)) = true then [x] else []) (fun x => by split <;> simp) (le_big (by rw [rng_length]; show 0 + _ ≤ _; omega)) (fun acc x _ hb => by
      simp only [m_l_beside_b1]
      by_cases c : s.2.1.contains (p, x) = true
      · refine bd (ift c rfl) ?_
        rw [c, Bool.true_or]
        exact bd (app_ok hb) rfl
      · refine bd (iff' (by simpa using c) rfl) ?_
        rw [show s.2.1.contains (p, x) = false by simpa using c, Bool.false_or]
        by_cases c2 : s.2.1.contains (x, p) = true
        · rw [if_pos c2, if_pos c2]; exact bd (app_ok hb) rfl
        · rw [if_neg c2, if_neg c2, List.append_nil])
    rw [List.nil_append] at hf
    refine bd hf (congrArg some ?_)
    refine asc_extI (filt_lt _ _) n1 fun a => ?_
    rw [filt_mem, n2, h7, h7, Bool.or_eq_true, List.contains_iff_mem, List.contains_iff_mem]
    constructor
    · exact fun z => z.2
    · intro z
      refine ⟨?_, z⟩
      rcases z with z | z
      · have := h2.1 _ z; simp only at this; omega
      · have := h2.1 _ z; simp only at this; omega
  have nl : (nbOf (sortP (ls.map nrm)) p).length ≤ 66 := Nat.le_trans (nbOf_le _ _) (by rw [sortP_len, List.length_map]; exact h5.2.2)
  simp only [m_l_around_b1]
  refine bd eb (bd en (bd en ?_))
  refine bd (x := false) (iff' rfl (bd (row_ok_0 (by omega)) rfl)) (iff' rfl ?_)
  refine bd (app_ok (lt_big (by omega))) ?_
  refine bd (x := false) (iff' rfl (bd (row_ok_0 (by omega)) rfl)) (iff' rfl ?_)
  refine bd en ?_
  refine bd (x := false) (iff' rfl (bd (row_ok_0 (by omega)) rfl)) (iff' rfl ?_)
  have eh : (sortI hs).contains p = s.2.2.2.contains p := by
    by_cases c : p ∈ s.2.2.2
    · rw [contains_true c, contains_true (sortI_mem.mpr ((h8 p).mpr c))]
    · rw [contains_false c, contains_false fun z => c ((h8 p).mp (sortI_mem.mp z))]
  refine bd (x := s.2.2.2.contains p) (by simp only [m_Chart_is_harbour, chOf]; rw [eh]) ?_
  exact iff' (by simp) rfl
theorem law_true (s : List Int) (_ : s.length ≤ 63) : m_law s = some true := by
  simp only [m_law]
  obtain ⟨h0, e0, hh0⟩ := hand_ok s 0 (by decide)
  refine bd e0 ?_
  obtain ⟨w1, g1, e1, s1, hg1, _⟩ := wide_ok hh0
  refine bd e1 ?_
  obtain ⟨h1, e2, hh1⟩ := hand_ok s 1 (by decide)
  refine bd e2 ?_
  obtain ⟨w2, g2, e3, s2, hg2, _⟩ := wide_ok hh1
  refine bd e3 ?_
  obtain ⟨h2, e4, hh2⟩ := hand_ok s 2 (by decide)
  refine bd e4 ?_
  obtain ⟨t1, g3, e5, ht1, _⟩ := flows_ok hh2 s1.2.2.1
  refine bd e5 ?_
  obtain ⟨h7, e6, hh7⟩ := hand_ok s 7 (by decide)
  refine bd e6 ?_
  obtain ⟨ks, k1, e7, hks, hk1⟩ := thinned_ok hh7 (m := 4) s1.2.1 (by decide) (by decide)
  refine bd e7 ?_
  obtain ⟨fs, k2, e8, hfs, hk2⟩ := flipped_ok hk1 hks.2.2
  refine bd e8 ?_
  have fl : fs.length = ks.length := by have := congrArg List.length hfs; rw [List.length_map, List.length_map] at this; exact this
  have kl := hks.2.2
  obtain ⟨rs, k3, e9, hrs, hk3⟩ := stirred_ok_1 hk2 (ls := fs) (by omega)
  refine bd e9 ?_
  have l1 := s1.1.2.1
  have l2 := s2.1.2.1
  have hp1 := s1.2.2.2.g l1
  obtain ⟨ps, k4, e10, hps, hk4⟩ := stirred_ok_0 hk3 (ls := w1.2.2.2) (Nat.le_trans hp1.2.2 (by decide))
  refine bd e10 ?_
  have em : ks.map nrm = ks := map_nrm fun p hp => (hks.1 p hp).2.1
  have pm : (rs.map nrm).Perm ks := by have := hrs.map nrm; rw [hfs, em] at this; exact this
  have hG : LanesG w1.1.length rs := ⟨fun p hp => hks.1 _ (pm.mem_iff.mp (List.mem_map.mpr ⟨p, hp, rfl⟩)), pm.nodup_iff.mpr hks.2.1, by rw [hrs.length_eq]; omega⟩
  have hH : HarbG w1.1.length ps := ⟨hps.nodup_iff.mpr hp1.1, fun x hx => hp1.2.1 x (hps.mem_iff.mp hx), by rw [hps.length_eq]; exact hp1.2.2⟩
  refine bd (init_ok_0 (d := w1.1) (t := t1) s1.1 hG ht1 hH) ?_
  have hE : HarbG w2.1.length [] := ⟨.nil, ⟨(fun x hx => absurd hx List.not_mem_nil), by decide⟩⟩
  refine bd (init_ok_1 (d := w2.1) (t := w2.2.2.1) s2.1 s2.2.1.g s2.2.2.1 hE) ?_
  have F1 : Fits (w1.1, ks, t1, w1.2.2.2) rs ps := ⟨s1.1, hks, ht1, s1.2.2.2, hG, hH, fun p => pm.mem_iff, fun p => hps.mem_iff⟩
  have F2 : Fits (w2.1, w2.2.1, w2.2.2.1, ([] : List Int)) w2.2.1 [] := ⟨s2.1, s2.2.1, s2.2.2.1, ⟨.nil, fun x hx => absurd hx List.not_mem_nil⟩, s2.2.1.g, hE, fun p => by rw [map_nrm fun p hp => (s2.2.1.1 p hp).2.1], fun p => Iff.rfl⟩
  refine bd (x := false) (bd (parts_ok F1) (iff' rfl (bd (parts_ok F2) rfl))) (iff' rfl ?_)
  refine bd (x := false) (bd (around_ok F1) (iff' rfl (bd (around_ok F2) rfl))) (iff' rfl ?_)
  refine bd (x := false) (iff' (by simp) (congrArg some (by simp))) (iff' rfl ?_)
  exact bd (bd (around_ok F1) (ift rfl (bd (parts_ok F1) (ift rfl (bd (around_ok F2) rfl))))) rfl


end Mi
namespace G
open PySem PySem.Spec PyProof.Rows L2
/-! ### what never changes, and how a heap changes -/
/-- the attribute that an __init__ sets last: an instance with it is whole and stays as it is -/
def lastF : List Str := ["joined", "fuel", "reach", "inside", "hops", "letters", "hours"]
def done (fs : List (Str × V)) : Bool := fs.any fun p => lastF.any fun q => decide (q = p.1)
def Froz : HO → Prop
  | .tup _ => True
  | .ins _ _ fs => done fs = true
  | .own _ => True
  | .frz _ _ => True
  | _ => False
structure Chg (M : List Addr) (H H' : Hp) : Prop where
  keep : ∀ b o, H b = some o → (b ∉ M ∨ Froz o) → H' b = some o
  dom : ∀ b, H' b = none → H b = none
theorem Chg.refl {M : List Addr} (H : Hp) : Chg M H H := ⟨fun _ _ h _ => h, fun _ h => h⟩
theorem Chg.trans {M : List Addr} {H H1 H2 : Hp} (a : Chg M H H1) (b : Chg M H1 H2) : Chg M H H2 :=
  ⟨fun x o h d => b.keep x o (a.keep x o h d) d, fun x h => a.dom x (b.dom x h)⟩
theorem Chg.mono {M N : List Addr} {H H' : Hp} (a : Chg M H H') (s : ∀ x ∈ M, x ∈ N) : Chg N H H' :=
  ⟨fun b o h d => a.keep b o h (d.imp (fun z y => z (s b y)) id), a.dom⟩
theorem Chg.none {M : List Addr} {H H' : Hp} (a : Chg [] H H') : Chg M H H' := a.mono (fun x h => nomatch h)
theorem Chg.new {M : List Addr} {H : Hp} {p : Addr} {o : HO} (np : H p = .none) : Chg M H (upd H p o) :=
  ⟨fun b u h _ => by rw [upd_ne (ne_of_none h np)]; exact h, fun b h => by
    by_cases e : b = p
    · subst e; exact np
    · rw [upd_ne e] at h; exact h⟩
theorem Chg.wr {H : Hp} {p : Addr} {o u : HO} (hp : H p = some u) (nf : ¬ Froz u) : Chg [p] H (upd H p o) :=
  ⟨fun b w h d => by
    have e : b ≠ p := by
      intro e; subst e
      rw [hp] at h; cases h
      rcases d with d | d
      · exact d (List.mem_singleton.mpr rfl)
      · exact nf d
    rw [upd_ne e]; exact h, fun b h => by
    by_cases e : b = p
    · subst e; rw [upd_same] at h; cases h
    · rw [upd_ne e] at h; exact h⟩
/-- what was made behind H0 may change -/
theorem Chg.loc {M N : List Addr} {H0 H H' : Hp} (a : Chg M H0 H) (b : Chg N H H') (fr : ∀ x ∈ N, H0 x = .none) : Chg M H0 H' :=
  ⟨fun x o h d => b.keep x o (a.keep x o h d) (.inl (fun z => by rw [fr x z] at h; cases h)), fun x h => a.dom x (b.dom x h)⟩
/-- the part N of M, and what was made behind H0, may change -/
theorem Chg.join {M N : List Addr} {H0 H H' : Hp} (a : Chg M H0 H) (b : Chg N H H') (fr : ∀ x ∈ N, x ∈ M ∨ H0 x = .none) : Chg M H0 H' :=
  ⟨fun x o h d => b.keep x o (a.keep x o h d) (by
    rcases d with d | d
    · refine .inl (fun z => ?_)
      rcases fr x z with y | y
      · exact d y
      · rw [y] at h; cases h
    · exact .inr d), fun x h => a.dom x (b.dom x h)⟩
theorem Chg.free {M : List Addr} {H H' : Hp} (a : Chg M H H') {p : Addr} (np : H' p = .none) : H p = .none := a.dom p np
/-! ### kinds of data -/
structure Ty (α : Type) where
  rep : PySem.W.Frag → Hp → List Addr → V → α → Prop
  keep : ∀ {K : PySem.W.Frag} {H H' : Hp} {F : List Addr} {v : V} {d : α}, rep K H F v d → (∀ b o, H b = some o → (b ∈ F ∨ Froz o) → H' b = some o) → rep K H' F v d
  dom : ∀ {K : PySem.W.Frag} {H : Hp} {F : List Addr} {v : V} {d : α}, rep K H F v d → ∀ b ∈ F, ∃ o, H b = some o ∧ ¬ Froz o
/-- a and b have nothing in common -/
def Dj (F G : List Addr) : Prop := ∀ a ∈ F, a ∉ G
theorem Dj.symm {F G : List Addr} (d : Dj F G) : Dj G F := fun a h z => d a z h
theorem Dj.nil {F : List Addr} : Dj [] F := fun a h => nomatch h
theorem Dj.nilR {F : List Addr} : Dj F [] := fun a h z => nomatch z
section
variable {α β : Type} {τ : Ty α} {υ : Ty β} {K : PySem.W.Frag} {H H' : Hp} {F G M : List Addr} {v u : V} {d : α} {p : Addr}
theorem Ty.chg (r : τ.rep K H F v d) (c : Chg M H H') (dj : Dj F M) : τ.rep K H' F v d :=
  τ.keep r fun b o h z => c.keep b o h (z.imp (fun y => dj b y) id)
theorem Ty.ex (r : τ.rep K H F v d) (c : Chg [] H H') : τ.rep K H' F v d := Ty.chg r c Dj.nilR
theorem Ty.fz (r : τ.rep K H [] v d) (c : Chg M H H') : τ.rep K H' [] v d := Ty.chg r c Dj.nil
theorem Ty.nin (r : τ.rep K H F v d) (np : H p = none) : Dj F [p] := fun a h z => by
  rw [List.mem_singleton] at z; subst z
  obtain ⟨o, e, _⟩ := τ.dom r a h
  rw [np] at e; cases e
theorem Ty.fresh (r : τ.rep K H F v d) (np : ∀ a ∈ G, H a = none) : Dj F G := fun a h z => by
  obtain ⟨o, e, _⟩ := τ.dom r a h
  rw [np a z] at e; cases e
end
theorem one_fresh {H : Hp} {p : Addr} (np : H p = none) : ∀ a ∈ [p], H a = none := fun a h => by
  rw [List.mem_singleton] at h; subst h; exact np
/-! ### flat data -/
def yInt : Ty Int := ⟨fun _ _ F v d => F = [] ∧ v = .int d, fun h _ => h, fun h b m => by rw [h.1] at m; cases m⟩
def yBool : Ty Bool := ⟨fun _ _ F v d => F = [] ∧ v = .bl d, fun h _ => h, fun h b m => by rw [h.1] at m; cases m⟩
def toS (l : List Nat) : Str := ⟨l.toArray⟩
def yStr : Ty (List Nat) := ⟨fun _ _ F v d => F = [] ∧ v = .str (toS d), fun h _ => h, fun h b m => by rw [h.1] at m; cases m⟩
def yNon : Ty Unit := ⟨fun _ _ F v _ => F = [] ∧ v = .non, fun h _ => h, fun h b m => by rw [h.1] at m; cases m⟩
theorem yInt_i {K : PySem.W.Frag} {H : Hp} {i : Int} : yInt.rep K H [] (.int i) i := ⟨rfl, rfl⟩
theorem yBool_i {K : PySem.W.Frag} {H : Hp} {i : Bool} : yBool.rep K H [] (.bl i) i := ⟨rfl, rfl⟩
theorem yStr_i {K : PySem.W.Frag} {H : Hp} {i : List Nat} : yStr.rep K H [] (.str (toS i)) i := ⟨rfl, rfl⟩
theorem yNon_i {K : PySem.W.Frag} {H : Hp} : yNon.rep K H [] .non () := ⟨rfl, rfl⟩
/-- None or data -/
def yOpt {α : Type} (τ : Ty α) : Ty (Option α) where
  rep K H F v d := match d with
    | none => F = [] ∧ v = .non
    | some x => v ≠ .non ∧ τ.rep K H F v x
  keep {K H H' F v d} h k := by
    cases d with
    | none => exact h
    | some x => exact ⟨h.1, τ.keep h.2 k⟩
  dom {K H F v d} h b m := by
    cases d with
    | none => rw [h.1] at m; cases m
    | some x => exact τ.dom h.2 b m
/-- a list whose items never change -/
def yLst {α : Type} (τ : Ty α) : Ty (List α) where
  rep K H F v xs := ∃ a vs, v = .ref a ∧ F = [a] ∧ H a = some (.lst vs) ∧ Paired (fun u x => τ.rep K H [] u x) vs xs
  keep {K H H' F v xs} h k := by
    obtain ⟨a, vs, e, f, g, r⟩ := h
    subst f
    exact ⟨a, vs, e, rfl, k a _ g (.inl (List.mem_singleton.mpr rfl)), Paired.mapP r fun u x q => τ.keep q fun b o hb z => k b o hb (z.elim (fun y => nomatch y) .inr)⟩
  dom {K H F v xs} h b m := by
    obtain ⟨a, vs, e, f, g, r⟩ := h
    subst f
    rw [List.mem_singleton] at m; subst m
    exact ⟨_, g, fun z => z⟩
theorem SqT.keeps {K : PySem.W.Frag} {H H' : Hp} {a : Addr} {vs : List V} (s : SqT K H a vs) (k : ∀ b o, H b = some o → Froz o → H' b = some o) : SqT K H' a vs := by
  rcases s with (s | ⟨o, s⟩) | s
  · exact .inl (.inl (k _ _ s trivial))
  · exact .inl (.inr ⟨o, k _ _ s trivial⟩)
  · exact .inr s
/-- the items of a tuple -/
structure Tys (α : Type) where
  rep : PySem.W.Frag → Hp → List Addr → List V → α → Prop
  keep : ∀ {K : PySem.W.Frag} {H H' : Hp} {F : List Addr} {v : List V} {d : α}, rep K H F v d → (∀ b o, H b = some o → (b ∈ F ∨ Froz o) → H' b = some o) → rep K H' F v d
  dom : ∀ {K : PySem.W.Frag} {H : Hp} {F : List Addr} {v : List V} {d : α}, rep K H F v d → ∀ b ∈ F, ∃ o, H b = some o ∧ ¬ Froz o
def sOne {α : Type} (τ : Ty α) : Tys α where
  rep K H F vs x := ∃ v, vs = [v] ∧ τ.rep K H F v x
  keep h k := by obtain ⟨v, e, r⟩ := h; exact ⟨v, e, τ.keep r k⟩
  dom h b m := by obtain ⟨v, e, r⟩ := h; exact τ.dom r b m
def sCons {α β : Type} (τ : Ty α) (ts : Tys β) : Tys (α × β) where
  rep K H F vs x := ∃ v ws F1 F2, vs = v :: ws ∧ F = F1 ++ F2 ∧ τ.rep K H F1 v x.1 ∧ ts.rep K H F2 ws x.2
  keep {K H H' F v d} h k := by
    obtain ⟨v, ws, F1, F2, e, f, r, q⟩ := h
    subst f
    exact ⟨v, ws, F1, F2, e, rfl, τ.keep r fun b o hb z => k b o hb (z.imp (fun y => List.mem_append_left _ y) id), ts.keep q fun b o hb z => k b o hb (z.imp (fun y => List.mem_append_right _ y) id)⟩
  dom {K H F v d} h b m := by
    obtain ⟨v, ws, F1, F2, e, f, r, q⟩ := h
    subst f
    rcases List.mem_append.mp m with m | m
    · exact τ.dom r b m
    · exact ts.dom q b m
def yTup {α : Type} (ts : Tys α) : Ty α where
  rep K H F v d := ∃ a vs, v = .ref a ∧ SqT K H a vs ∧ ts.rep K H F vs d
  keep h k := by
    obtain ⟨a, vs, e, s, r⟩ := h
    exact ⟨a, vs, e, SqT.keeps s fun b o hb z => k b o hb (.inr z), ts.keep r k⟩
  dom h b m := by obtain ⟨a, vs, e, s, r⟩ := h; exact ts.dom r b m
/-- a tuple of any number of things of one kind that never change -/
def yTupL {α : Type} (τ : Ty α) : Ty (List α) where
  rep K H F v xs := ∃ a vs, v = .ref a ∧ F = [] ∧ SqT K H a vs ∧ Paired (fun u x => τ.rep K H [] u x) vs xs
  keep {K H H' F v xs} h k := by
    obtain ⟨a, vs, e, f, g, r⟩ := h
    exact ⟨a, vs, e, f, SqT.keeps g fun b o hb z => k b o hb (.inr z), Paired.mapP r fun u x q => τ.keep q fun b o hb z => k b o hb (z.elim (fun y => nomatch y) .inr)⟩
  dom {K H F v xs} h b m := by
    obtain ⟨a, vs, e, f, g, r⟩ := h
    rw [f] at m; cases m
/-- the script -/
def yScr : Ty (List Int) where
  rep K H F v xs := F = [] ∧ ∃ a, v = .ref a ∧ ∀ H', (∀ b o, H b = some o → Froz o → H' b = some o) → SqL K H' a (xs.map V.int)
  keep {K H H' F v xs} h k := by
    obtain ⟨f, a, e, g⟩ := h
    exact ⟨f, a, e, fun H2 k2 => g H2 fun b o hb z => k2 b o (k b o hb (.inr z)) z⟩
  dom {K H F v xs} h b m := by
    rw [h.1] at m; cases m
theorem yScr_of {K : PySem.W.Frag} {H : Hp} {a : Addr} {ns : List Int} (o : Only H) (s : SqL K H a (ns.map V.int)) : yScr.rep K H [] (.ref a) ns := by
  refine ⟨rfl, a, rfl, fun H' k => ?_⟩
  rcases s with (s | ⟨ob, s⟩) | s
  · rcases o a with z | ⟨_, _, z⟩
    · rw [z] at s; cases s
    · rw [z] at s; cases s
  · exact .inl (.inr ⟨ob, k _ _ s trivial⟩)
  · exact .inr s
end G

namespace G
open PySem PySem.Spec PyProof.Rows L2
theorem at_eq {α : Type} (xs : List α) (i : Int) : L2.atI xs i = Mi.at_ xs i := rfl
theorem ixN_eq (n : Nat) (i : Int) : L2.ixN n i = Mi.ixN n i := rfl
theorem line_big : Mi.big ≤ sizeLine := by rw [sizeLine_eq]; decide
section paired
variable {α β γ : Type} {R : α → β → Prop}
theorem pr_len {xs : List α} {ys : List β} (r : Paired R xs ys) : xs.length = ys.length := Paired.length r
theorem pr_get : ∀ {xs : List α} {ys : List β} {j : Nat} {y : β}, Paired R xs ys → ys[j]? = some y → ∃ x, xs[j]? = some x ∧ R x y
  | _, _, _, _, .nil, e => by simp at e
  | _, _, 0, _, .cons r _, e => by simp at e; subst e; exact ⟨_, rfl, r⟩
  | _, _, j + 1, y, .cons _ t, e => by
    obtain ⟨u, h1, h2⟩ := pr_get (j := j) (y := y) t (by simpa using e)
    exact ⟨u, by simpa using h1, h2⟩
theorem pr_getL : ∀ {xs : List α} {ys : List β} {j : Nat} {x : α}, Paired R xs ys → xs[j]? = some x → ∃ y, ys[j]? = some y ∧ R x y
  | _, _, _, _, .nil, e => by simp at e
  | _, _, 0, _, .cons r _, e => by simp at e; subst e; exact ⟨_, rfl, r⟩
  | _, _, j + 1, y, .cons _ t, e => by
    obtain ⟨u, h1, h2⟩ := pr_getL (j := j) (x := y) t (by simpa using e)
    exact ⟨u, by simpa using h1, h2⟩
theorem pr_set {x : α} {y : β} (r : R x y) : ∀ {xs : List α} {ys : List β} (i : Nat), Paired R xs ys → Paired R (xs.set i x) (ys.set i y)
  | _, _, _, .nil => .nil
  | _, _, 0, .cons _ t => .cons r t
  | _, _, i + 1, .cons q t => .cons q (pr_set r i t)
theorem pr_app : ∀ {xs zs : List α} {ys ws : List β}, Paired R xs ys → Paired R zs ws → Paired R (xs ++ zs) (ys ++ ws)
  | _, _, _, _, .nil, s => s
  | _, _, _, _, .cons r t, s => .cons r (pr_app t s)
theorem pr_take : ∀ {xs : List α} {ys : List β} (n : Nat), Paired R xs ys → Paired R (xs.take n) (ys.take n)
  | _, _, 0, _ => .nil
  | _, _, _ + 1, .nil => .nil
  | _, _, n + 1, .cons r t => .cons r (pr_take n t)
theorem pr_drop : ∀ {xs : List α} {ys : List β} (n : Nat), Paired R xs ys → Paired R (xs.drop n) (ys.drop n)
  | _, _, 0, r => r
  | _, _, _ + 1, .nil => .nil
  | _, _, n + 1, .cons _ t => pr_drop n t
theorem pr_at {xs : List α} {ys : List β} {i : Int} {y : β} (r : Paired R xs ys) (h : Mi.at_ ys i = some y) : ∃ x, L2.atI xs i = some x ∧ R x y := by
  rw [at_eq]
  unfold Mi.at_ at h ⊢
  rw [pr_len r]
  obtain ⟨j, e, h⟩ := Mi.bnd h
  obtain ⟨x, e2, q⟩ := pr_get r h
  exact ⟨x, by rw [e]; exact e2, q⟩
theorem pr_map (f : β → α) (h : ∀ b, R (f b) b) : ∀ ys : List β, Paired R (ys.map f) ys
  | [] => .nil
  | y :: ys => .cons (h y) (pr_map f h ys)
theorem pr_of_map (f : β → α) (h : ∀ a b, R a b → a = f b) : ∀ {xs : List α} {ys : List β}, Paired R xs ys → xs = ys.map f
  | _, _, .nil => rfl
  | _, _, .cons r t => by rw [h _ _ r, pr_of_map f h t]; rfl
end paired
theorem ints_of {K : PySem.W.Frag} {H : Hp} {vs : List V} {ns : List Int} (r : Paired (fun u x => yInt.rep K H [] u x) vs ns) : vs = ns.map V.int := pr_of_map V.int (fun _ _ q => q.2) r
theorem ints_mk {K : PySem.W.Frag} {H : Hp} (ns : List Int) : Paired (fun u x => yInt.rep K H [] u x) (ns.map V.int) ns := pr_map V.int (fun _ => ⟨rfl, rfl⟩) ns
/-! ### values without a change of the heap -/
section vals
variable {K : PySem.W.Frag} {σ : L2.St} {H : Hp} {F : List Addr} {ta tb te : TE} {v u x y : V} {i j : Int} {t : TT} {b c : Bool} {α β : Type} {τ : Ty α}
theorem val_I0 {g : Int → Int → V} (ha : Val ta σ H (.int i)) (hb : Val tb σ H (.int j)) : Val (tOp (rI0 g) ta tb) σ H (g i j) := val_op ha hb fun Q q => ⟨i, j, rfl, rfl, q⟩
theorem val_I {C : Int → Int → Prop} {g : Int → Int → V} (ha : Val ta σ H (.int i)) (hb : Val tb σ H (.int j)) (hc : C i j) : Val (tOp (rI C g) ta tb) σ H (g i j) := val_op ha hb fun Q q => ⟨i, j, rfl, rfl, hc, q⟩
theorem val_U {g : Int → V} (ha : Val ta σ H (.int i)) : Val (tUn (rU g) ta) σ H (g i) := fun Q q => ha _ ⟨i, rfl, q⟩
theorem dI {i j : Int} : decide (V.int i = V.int j) = decide (i = j) := by
  by_cases e : i = j
  · subst e; simp
  · rw [decide_eq_false e, decide_eq_false (fun q => e (V.int.inj q))]
theorem dB {i j : Bool} : decide (V.bl i = V.bl j) = decide (i = j) := by
  by_cases e : i = j
  · subst e; simp
  · rw [decide_eq_false e, decide_eq_false (fun q => e (V.bl.inj q))]
theorem dS {i j : Str} : decide (V.str i = V.str j) = decide (i = j) := by
  by_cases e : i = j
  · subst e; simp
  · rw [decide_eq_false e, decide_eq_false (fun q => e (V.str.inj q))]
theorem val_eqI (ha : Val ta σ H (.int i)) (hb : Val tb σ H (.int j)) : Val (tOp rEq ta tb) σ H (.bl (decide (i = j))) := val_op ha hb fun Q q => ⟨rfl, by rw [dI]; exact q⟩
theorem val_neI (ha : Val ta σ H (.int i)) (hb : Val tb σ H (.int j)) : Val (tOp rNe ta tb) σ H (.bl (!decide (i = j))) := val_op ha hb fun Q q => ⟨rfl, by rw [dI]; exact q⟩
theorem val_eqB (ha : Val ta σ H (.bl b)) (hb : Val tb σ H (.bl c)) : Val (tOp rEq ta tb) σ H (.bl (decide (b = c))) := val_op ha hb fun Q q => ⟨rfl, by rw [dB]; exact q⟩
theorem val_neB (ha : Val ta σ H (.bl b)) (hb : Val tb σ H (.bl c)) : Val (tOp rNe ta tb) σ H (.bl (!decide (b = c))) := val_op ha hb fun Q q => ⟨rfl, by rw [dB]; exact q⟩
theorem val_is {w : V} (h : Val te σ H v) (e : v = w) : Val te σ H w := e ▸ h
theorem ans_is (h : Ans t σ H b) (e : b = c) : Ans t σ H c := e ▸ h
theorem mulC {i j r : Int} (h : Mi.mul i j = some r) : CMul i j ∧ i * j = r := by
  unfold Mi.mul at h
  split at h
  · exact ⟨by assumption, Option.some.inj h⟩
  · cases h
theorem modC {i j r : Int} (h : Mi.mod i j = some r) : 0 < j ∧ i % j = r := by
  unfold Mi.mod at h
  split at h
  · exact ⟨by assumption, Option.some.inj h⟩
  · cases h
theorem divC {i j r : Int} (h : Mi.fdiv i j = some r) : CDivW i j ∧ i / j = r := by
  unfold Mi.fdiv at h
  split at h
  · rename_i hc
    refine ⟨wide_div (b := 200) hc.1 ?_ (by decide) (by decide), Option.some.inj h⟩
    omega
  · cases h
theorem val_mul {r : Int} (ha : Val ta σ H (.int i)) (hb : Val tb σ H (.int j)) (h : Mi.mul i j = some r) : Val (tOp (rI CMul fun i j => .int (i * j)) ta tb) σ H (.int r) := val_is (val_I ha hb (mulC h).1) (by rw [(mulC h).2])
theorem val_mod {r : Int} (ha : Val ta σ H (.int i)) (hb : Val tb σ H (.int j)) (h : Mi.mod i j = some r) : Val (tOp (rI (fun _ j => 0 < j) fun i j => .int (i % j)) ta tb) σ H (.int r) := val_is (val_I ha hb (modC h).1) (by rw [(modC h).2])
theorem val_fdiv {r : Int} (ha : Val ta σ H (.int i)) (hb : Val tb σ H (.int j)) (h : Mi.fdiv i j = some r) : Val (tOp (rI CDivW fun i j => .int (i / j)) ta tb) σ H (.int r) := val_is (val_I ha hb (divC h).1) (by rw [(divC h).2])
theorem ans_t (h : Val te σ H (.bl b)) : Ans (tTest te) σ H b := fun Q q => h _ ⟨b, rfl, q⟩
/-- int(n) -/
def rInt1 : List V → Hp → VK → Prop := fun xs H Q => (∃ i, xs = [.int i] ∧ Q (.int i) H) ∨ ∃ k, xs = [.bl k] ∧ Q (.int (if k then 1 else 0)) H
theorem cl_int {X : Cx} : CallR X (.type "int") rInt1 := call_int1
theorem val_int (ha : Val ta σ H (.int i)) : Val (tCB rInt1 (tCons ta tNil)) σ H (.int i) := fun Q q => ha _ (.inl ⟨i, rfl, q⟩)
def rMax2 : List V → Hp → VK → Prop := fun xs H Q => ∃ i j, xs = [.int i, .int j] ∧ Q (.int (if j > i then j else i)) H
def rMin2 : List V → Hp → VK → Prop := fun xs H Q => ∃ i j, xs = [.int i, .int j] ∧ Q (.int (if j < i then j else i)) H
theorem cl_max2 {X : Cx} (hc : X.calm = true) : CallR X (.builtin "max") rMax2 := call_max2 hc
theorem cl_min2 {X : Cx} (hc : X.calm = true) : CallR X (.builtin "min") rMin2 := call_min2 hc
theorem val_max2 (ha : Val ta σ H (.int i)) (hb : Val tb σ H (.int j)) : Val (tCB rMax2 (tCons ta (tCons tb tNil))) σ H (.int (max i j)) := fun Q q => ha _ (hb _ ⟨i, j, rfl, by
  have e : (if j > i then j else i) = max i j := by split <;> omega
  rw [e]; exact q⟩)
theorem val_min2 (ha : Val ta σ H (.int i)) (hb : Val tb σ H (.int j)) : Val (tCB rMin2 (tCons ta (tCons tb tNil))) σ H (.int (min i j)) := fun Q q => ha _ (hb _ ⟨i, j, rfl, by
  have e : (if j < i then j else i) = min i j := by split <;> omega
  rw [e]; exact q⟩)
/-- len of a list or tuple -/
def rLenQ (K : PySem.W.Frag) : List V → Hp → VK → Prop := fun xs H Q => ∃ p ys, xs = [.ref p] ∧ (SqL K H p ys ∨ SqT K H p ys) ∧ Q (.int ys.length) H
theorem cl_len {X : Cx} {K : PySem.W.Frag} (e : X.K = K := by rfl) : CallR X (.builtin "len") (rLenQ K) := by subst e; exact call_len_seq
theorem lst_sq {xs : List α} (r : (yLst τ).rep K H F v xs) : ∃ a vs, v = .ref a ∧ SqL K H a vs ∧ Paired (fun u x => τ.rep K H [] u x) vs xs := by
  obtain ⟨a, vs, e, f, g, q⟩ := r
  exact ⟨a, vs, e, .inl (.inl g), q⟩
theorem tupl_sq {xs : List α} (r : (yTupL τ).rep K H F v xs) : ∃ a vs, v = .ref a ∧ SqT K H a vs ∧ Paired (fun u x => τ.rep K H [] u x) vs xs := by
  obtain ⟨a, vs, e, f, g, q⟩ := r
  exact ⟨a, vs, e, g, q⟩
theorem scr_sq {xs : List Int} (r : yScr.rep K H F v xs) : ∃ a vs, v = .ref a ∧ SqL K H a vs ∧ Paired (fun u x => yInt.rep K H [] u x) vs xs := by
  obtain ⟨f, a, e, g⟩ := r
  exact ⟨a, _, e, g H fun _ _ h _ => h, ints_mk xs⟩
theorem val_lenL {xs : List α} (r : (yLst τ).rep K H F v xs) (ha : Val ta σ H v) : Val (tCB (rLenQ K) (tCons ta tNil)) σ H (.int (xs.length : Int)) := by
  obtain ⟨a, vs, e, s, q⟩ := lst_sq r
  subst e
  exact fun Q k => ha _ ⟨a, vs, rfl, .inl s, by rw [pr_len q]; exact k⟩
theorem val_lenT {xs : List α} (r : (yTupL τ).rep K H F v xs) (ha : Val ta σ H v) : Val (tCB (rLenQ K) (tCons ta tNil)) σ H (.int (xs.length : Int)) := by
  obtain ⟨a, vs, e, s, q⟩ := tupl_sq r
  subst e
  exact fun Q k => ha _ ⟨a, vs, rfl, .inr s, by rw [pr_len q]; exact k⟩
theorem val_lenS {xs : List Int} (r : yScr.rep K H F v xs) (ha : Val ta σ H v) : Val (tCB (rLenQ K) (tCons ta tNil)) σ H (.int (xs.length : Int)) := by
  obtain ⟨a, vs, e, s, q⟩ := scr_sq r
  subst e
  exact fun Q k => ha _ ⟨a, vs, rfl, .inl s, by rw [pr_len q]; exact k⟩
/-- items -/
theorem ix_l {X : Cx} {K : PySem.W.Frag} (e : X.K = K := by rfl) : IxR X (rIxL K) := by subst e; exact ix_list
theorem ix_t {X : Cx} {K : PySem.W.Frag} (e : X.K = K := by rfl) : IxR X (rIxT K) := by subst e; exact ix_tup
/-- the item's own value, by its data -/
theorem itm_L {xs : List α} {x : α} (r : (yLst τ).rep K H F v xs) (h : Mi.at_ xs i = some x) :
    ∃ u, τ.rep K H [] u x ∧ ∀ {σ : L2.St} {ta tb : TE}, Val ta σ H v → Val tb σ H (.int i) → Val (tOp (rIxL K) ta tb) σ H u := by
  obtain ⟨a, vs, e, s, q⟩ := lst_sq r
  subst e
  obtain ⟨u, e, ru⟩ := pr_at q h
  exact ⟨u, ru, fun ha hb => val_op ha hb fun Q k => ⟨a, vs, i, u, rfl, rfl, s, e, k⟩⟩
theorem itm_T {xs : List α} {x : α} (r : (yTupL τ).rep K H F v xs) (h : Mi.at_ xs i = some x) :
    ∃ u, τ.rep K H [] u x ∧ ∀ {σ : L2.St} {ta tb : TE}, Val ta σ H v → Val tb σ H (.int i) → Val (tOp (rIxT K) ta tb) σ H u := by
  obtain ⟨a, vs, e, s, q⟩ := tupl_sq r
  subst e
  obtain ⟨u, e, ru⟩ := pr_at q h
  exact ⟨u, ru, fun ha hb => val_op ha hb fun Q k => ⟨a, vs, i, u, rfl, rfl, s, e, k⟩⟩
theorem itm_S {xs : List Int} {x : Int} (r : yScr.rep K H F v xs) (h : Mi.at_ xs i = some x) {σ : L2.St} {ta tb : TE} (ha : Val ta σ H v) (hb : Val tb σ H (.int i)) : Val (tOp (rIxL K) ta tb) σ H (.int x) := by
  obtain ⟨a, vs, e, s, q⟩ := scr_sq r
  subst e
  obtain ⟨u, e, ru⟩ := pr_at q h
  obtain ⟨_, rfl⟩ := ru
  exact val_op ha hb fun Q k => ⟨a, vs, i, _, rfl, rfl, s, e, k⟩
/-- ints in lists -/
theorem itm_LI {xs : List Int} {x : Int} (r : (yLst yInt).rep K H F v xs) (h : Mi.at_ xs i = some x) {σ : L2.St} {ta tb : TE} (ha : Val ta σ H v) (hb : Val tb σ H (.int i)) : Val (tOp (rIxL K) ta tb) σ H (.int x) := by
  obtain ⟨u, ⟨_, rfl⟩, k⟩ := itm_L r h
  exact k ha hb
theorem itm_TI {xs : List Int} {x : Int} (r : (yTupL yInt).rep K H F v xs) (h : Mi.at_ xs i = some x) {σ : L2.St} {ta tb : TE} (ha : Val ta σ H v) (hb : Val tb σ H (.int i)) : Val (tOp (rIxT K) ta tb) σ H (.int x) := by
  obtain ⟨u, ⟨_, rfl⟩, k⟩ := itm_T r h
  exact k ha hb
/-! ### isinstance -/
theorem cl_isi {X : Cx} {K : PySem.W.Frag} (e : X.K = K := by rfl) : CallR X (.builtin "isinstance") (rIsi K) := by subst e; exact call_isi
theorem val_isi {n m : String} {b : Bool} (ha : Val ta σ H v) (ht : TyX K H v (.type n)) (h : kitB n m = some b) : Val (tCB (rIsi K) (tCons ta (tCons (tC (.ty m)) tNil))) σ H (.bl b) := fun Q q =>
  ha _ ⟨v, .ty m, .type n, .type m, b, rfl, .ty m, ht, kit_ty h, q⟩
theorem ty_int : TyX K H (.int i) (.type "int") := .base (.int i)
theorem ty_bl : TyX K H (.bl b) (.type "bool") := .base (.bl b)
theorem ty_str {s : Str} : TyX K H (.str s) (.type "str") := .base (.str s)
theorem ty_non : TyX K H .non (.type "NoneType") := .base .non
theorem ty_lst {xs : List α} (r : (yLst τ).rep K H F v xs) : TyX K H v (.type "list") := by
  obtain ⟨a, vs, rfl, f, g, q⟩ := r
  exact .base (.lst g)
theorem ty_sqt {a : Addr} {vs : List V} (s : SqT K H a vs) : TyX K H (.ref a) (.type "tuple") := by
  rcases s with (s | ⟨o, s⟩) | ⟨o, its, n, e, c, _⟩
  · exact .base (.tup s)
  · exact .fTuple s
  · exact .kTuple e c
theorem ty_tupl {xs : List α} (r : (yTupL τ).rep K H F v xs) : TyX K H v (.type "tuple") := by
  obtain ⟨a, vs, rfl, s, q⟩ := tupl_sq r
  exact ty_sqt s
theorem ty_tup {ts : Tys α} {d : α} (r : (yTup ts).rep K H F v d) : TyX K H v (.type "tuple") := by
  obtain ⟨a, vs, rfl, s, q⟩ := r
  exact ty_sqt s
end vals
/-! ### going on behind an expression -/
section cps
variable {K : PySem.W.Frag} {σ σ' : L2.St} {H : Hp} {F : List Addr} {ta tb te : TE} {v u x y : V} {i j : Int} {t : TT} {b c : Bool} {α β : Type} {τ : Ty α} {Q : VK} {D : Ends} {t1 t2 : TS}
theorem c_val (h : Val te σ H v) (k : Q v H) : te σ H Q := h Q k
theorem c_ans {Q : Bool → Hp → Prop} (h : Ans t σ H b) (k : Q b H) : t σ H Q := h Q k
theorem c_if {A B : Prop} (h1 : b = true → A) (h2 : b = false → B) : if b = true then A else B := by
  cases b with
  | true => exact iteT (h1 rfl)
  | false => exact iteF (h2 rfl)
theorem s_if (h : Ans t σ H b) (h1 : b = true → t1 D σ H) (h2 : b = false → t2 D σ H) : tIfS t t1 t2 D σ H := h _ (c_if h1 h2)
/-- x = e -/
theorem s_set {i : Nat} (h : Val te σ H v) (e : σ.set i (some v) = σ') (k : D.nx σ' H) : tAsg te (gName i) D σ H := h _ (by show D.nx (σ.set i (some v)) H; rw [e]; exact k)
theorem s_setI {i : Nat} {n m : Int} (h : Val te σ H (.int n)) (en : n = m) (e : σ.set i (some (.int m)) = σ') (k : D.nx σ' H) : tAsg te (gName i) D σ H := s_set (v := .int m) (en ▸ h) e k
theorem s_seq (h : t1 { D with nx := t2 D } σ H) : tSeq t1 t2 D σ H := h
/-- a join: R is what holds where the ways come together -/
theorem s_join {R : L2.St → Hp → Prop} (w : ∀ nx : L2.St → Hp → Prop, (∀ σ' H', R σ' H' → nx σ' H') → t1 { D with nx := nx } σ H) (k : ∀ σ' H', R σ' H' → t2 D σ' H') : tSeq t1 t2 D σ H := w _ k
theorem g_name {i : Nat} {Q : L2.St → Hp → Prop} (e : σ.set i (some v) = σ') (k : Q σ' H) : gName i v σ H Q := by show Q (σ.set i (some v)) H; rw [e]; exact k
theorem g_nameI {i : Nat} {n m : Int} {Q : L2.St → Hp → Prop} (en : n = m) (e : σ.set i (some (.int m)) = σ') (k : Q σ' H) : gName i (.int n) σ H Q := g_name (v := .int n) (by rw [en]; exact e) k
/-- a list, a tuple is made -/
theorem sz {n : Nat} (h : n ≤ Mi.big) : n ≤ sizeLine := Nat.le_trans h line_big
theorem c_lst {ts : TA} (h : ts σ H fun xs H1 => xs.length ≤ Mi.big ∧ ∀ p, H1 p = none → Q (.ref p) (upd H1 p (.lst xs))) (mono : ∀ Q Q' : List V → Hp → Prop, (∀ xs H1, Q xs H1 → Q' xs H1) → ts σ H Q → ts σ H Q') : L2.tLst ts σ H Q := mono _ _ (fun xs H1 z => ⟨sz z.1, z.2⟩) h
/-- values of arguments -/
def VaA (t : TA) (σ : L2.St) (H : Hp) (vs : List V) : Prop := ∀ Q : List V → Hp → Prop, Q vs H → t σ H Q
theorem va_nil : VaA tNil σ H [] := fun Q q => q
theorem va_cons {tr : TA} {vs : List V} (h : Val ta σ H v) (r : VaA tr σ H vs) : VaA (tCons ta tr) σ H (v :: vs) := fun Q q => h _ (r _ q)
theorem n_lst {ts : TA} {vs : List V} {xs : List α} (h : VaA ts σ H vs) (z : vs.length ≤ Mi.big) (r : Paired (fun u x => τ.rep K H [] u x) vs xs)
    (k : ∀ p H', H p = none → Chg [] H H' → (yLst τ).rep K H' [p] (.ref p) xs → Q (.ref p) H') : L2.tLst ts σ H Q := h _ ⟨sz z, fun p np => k p _ np (Chg.new np)
      ⟨p, vs, rfl, rfl, upd_same, Paired.mapP r fun u x q => Ty.ex q (Chg.new np)⟩⟩
theorem n_tup {ts : TA} {ty : Tys α} {vs : List V} {d : α} {F : List Addr} (h : VaA ts σ H vs) (z : vs.length ≤ Mi.big) (r : ty.rep K H F vs d)
    (k : ∀ p H', H p = none → Chg [] H H' → (yTup ty).rep K H' F (.ref p) d → Q (.ref p) H') : L2.tTup ts σ H Q := h _ ⟨sz z, fun p np => k p _ np (Chg.new np)
      ⟨p, vs, rfl, .inl (.inl upd_same), ty.keep r fun b o e _ => by rw [upd_ne (ne_of_none e np)]; exact e⟩⟩
/-- xs.append(e) -/
theorem m_app {xs ys : List α} {d : α} (r : (yLst τ).rep K H F v xs) (ru : τ.rep K H [] u d) (hm : Mi.app xs d = some ys) (k : ∀ H', Chg F H H' → (yLst τ).rep K H' F v ys → Q .non H') : rAppend v [u] H Q := by
  obtain ⟨p, vs, rfl, rfl, g, q⟩ := r
  unfold Mi.app at hm
  split at hm
  · rename_i hz
    cases hm
    have c : Chg [p] H (upd H p (.lst (vs ++ [u]))) := Chg.wr g (fun z => z)
    refine ⟨p, vs, u, rfl, rfl, g, Nat.lt_of_lt_of_le (by rw [pr_len q]; exact hz) line_big, k _ c ⟨p, _, rfl, rfl, upd_same, ?_⟩⟩
    exact pr_app (Paired.mapP q fun _ _ z => Ty.fz z c) (.cons (Ty.fz ru c) .nil)
  · cases hm
/-- xs[i] = e -/
theorem m_set {xs ys : List α} {d : α} {Q : Hp → Prop} (r : (yLst τ).rep K H F v xs) (ru : τ.rep K H [] u d) (hm : Mi.setAt xs i d = some ys) (k : ∀ H', Chg F H H' → (yLst τ).rep K H' F v ys → Q H') : rSetL v (.int i) u H Q := by
  obtain ⟨p, vs, rfl, rfl, g, q⟩ := r
  unfold Mi.setAt at hm
  obtain ⟨j, e, hm⟩ := Mi.bnd hm
  cases hm
  have c : Chg [p] H (upd H p (.lst (vs.set j u))) := Chg.wr g (fun z => z)
  refine ⟨p, vs, i, j, rfl, rfl, g, by rw [pr_len q]; exact e, k _ c ⟨p, _, rfl, rfl, upd_same, ?_⟩⟩
  exact pr_set (Ty.fz ru c) j (Paired.mapP q fun _ _ z => Ty.fz z c)
end cps
end G

namespace G
open PySem PySem.Spec PyProof.Rows L2
/-- the built-in names that the program leaves as they are -/
structure Bi (mg : Str → Option Value) : Prop where
  len : mg "len" = none
  range : mg "range" = none
  int : mg "int" = none
  bool : mg "bool" = none
  isinstance : mg "isinstance" = none
  max : mg "max" = none
  min : mg "min" = none
  list : mg "list" = none
  tuple : mg "tuple" = none
  sorted : mg "sorted" = none
  set : mg "set" = none
  enumerate : mg "enumerate" = none
  zip : mg "zip" = none
  reversed : mg "reversed" = none
  sum : mg "sum" = none
  any : mg "any" = none
  all : mg "all" = none
  str : mg "str" = none
/-- a def of the text stands under its name -/
structure Dfn (K : PySem.W.Frag) (mg : Str → Option Value) (x : Str) (st : Stmt) : Prop where
  ex : ∃ f fd, Fun K x x st f fd ∧ mg x = some (.ref f)
/-- a def may be called by its name and keeps its promise -/
structure Cal (P : Program) (w : World) (K : PySem.W.Frag) (mg : Str → Option Value) (x : Str) (ps : List Str) (k : Nat) (sp : Sp) : Prop where
  ex : ∃ f fd, mg x = some (.ref f) ∧ PySem.W.keepIn K (.ref f) = true ∧ (∀ (s : Shared) (us : List Value), us.length = ps.length → BindsTo s fd ⟨us, []⟩ (ps.zip us)) ∧ ∀ base : Heap, FnOk P w K mg base CX0 k f fd ps sp
theorem pe_cc {X : Cx} {x : Str} {ps : List Str} {j k : Nat} {sp : Sp} {p pos : Pos} {e : Expr} {es : List Expr} {t : TA} (C : Cal X.prog X.w X.K X.mg x ps j sp) (hr : Room k X.A) (ha : PA X (e :: es) t) (hj : j ≤ k := by decide) (hg : Gl X x := by rfl)
    (hd : (x == ("__debug__" : Str)) = false := by decide) (he : starEach (e :: es) X.env = (false, eval e X.env) :: starEach es X.env := by rfl)
    (hpl : (backTo pos (starEach es X.env)).any (·.1) = false := by rfl) :
    PE X (.Call (.Name x p) (e :: es) [] pos) (tCall sp [] E0 t) := by
  obtain ⟨f, fd, g, kp, b, F⟩ := C.ex
  exact pe_call (F X.base) (hr.mono hj) hg g kp (fun s us _ hl => by rw [List.append_nil] at hl ⊢; exact b s us hl) .nil pass0 ha hd he hpl
theorem bindsF {K : PySem.W.Frag} {x qual : Str} {st : Stmt} {f : Addr} {fd : FuncData} {ps : List Str} (F : Fun K x qual st f fd)
    (h : ∀ (kV doc pm : Value) (an : Option Addr) (cdv ct : Value) (us : List Value), us.length = ps.length → bindArgs (PySem.W.fnOf x qual (defArgs st) (defBody st) (defScope st) .none kV doc pm an cdv ct) ⟨us, []⟩ = pure (ps.zip us)) (s : Shared) (us : List Value) (hl : us.length = ps.length) : BindsTo s fd ⟨us, []⟩ (ps.zip us) := by
  obtain ⟨oc, od, kV, doc, pm, an, cdv, ct, osl, rfl, lk, hcd⟩ := F.ex
  exact .of_eq (h kV doc pm an cdv ct us hl)
end G

namespace G
open PySem PySem.Spec PyProof.Rows L2
section
variable {K : PySem.W.Frag} {σ σ' : L2.St} {H : Hp} {F : List Addr} {ta tb te : TE} {v u x y : V} {i j : Int} {t tu : TT} {b c a : Bool} {α β : Type} {τ : Ty α} {Q : VK} {D : Ends} {t1 t2 : TS}
theorem val_add (ha : Val ta σ H (.int i)) (hb : Val tb σ H (.int j)) : Val (tOp (rI0 fun i j => .int (i + j)) ta tb) σ H (.int (i + j)) := val_I0 ha hb
theorem val_sub (ha : Val ta σ H (.int i)) (hb : Val tb σ H (.int j)) : Val (tOp (rI0 fun i j => .int (i - j)) ta tb) σ H (.int (i - j)) := val_I0 ha hb
theorem val_lt (ha : Val ta σ H (.int i)) (hb : Val tb σ H (.int j)) : Val (tOp (rI0 fun i j => .bl (decide (i < j))) ta tb) σ H (.bl (decide (i < j))) := val_I0 (g := fun i j => .bl (decide (i < j))) ha hb
theorem val_le (ha : Val ta σ H (.int i)) (hb : Val tb σ H (.int j)) : Val (tOp (rI0 fun i j => .bl (decide (i ≤ j))) ta tb) σ H (.bl (decide (i ≤ j))) := val_I0 (g := fun i j => .bl (decide (i ≤ j))) ha hb
theorem val_gt (ha : Val ta σ H (.int i)) (hb : Val tb σ H (.int j)) : Val (tOp (rI0 fun i j => .bl (decide (j < i))) ta tb) σ H (.bl (decide (j < i))) := val_I0 (g := fun i j => .bl (decide (j < i))) ha hb
theorem val_ge (ha : Val ta σ H (.int i)) (hb : Val tb σ H (.int j)) : Val (tOp (rI0 fun i j => .bl (decide (j ≤ i))) ta tb) σ H (.bl (decide (j ≤ i))) := val_I0 (g := fun i j => .bl (decide (j ≤ i))) ha hb
theorem val_neg (ha : Val ta σ H (.int i)) : Val (tUn (rU fun i => .int (-i)) ta) σ H (.int (-i)) := val_U (g := fun i => .int (-i)) ha
theorem val_mulL (ha : Val ta σ H (.int i)) (hb : Val tb σ H (.int j)) (h : -(2 ^ 64) < i ∧ i < 2 ^ 64) : Val (tOp (rI CMul fun i j => .int (i * j)) ta tb) σ H (.int (i * j)) := val_I (g := fun i j => .int (i * j)) ha hb (.inl h)
theorem val_mulR (ha : Val ta σ H (.int i)) (hb : Val tb σ H (.int j)) (h : -(2 ^ 64) < j ∧ j < 2 ^ 64) : Val (tOp (rI CMul fun i j => .int (i * j)) ta tb) σ H (.int (i * j)) := val_I (g := fun i j => .int (i * j)) ha hb (.inr h)
theorem val_modc (ha : Val ta σ H (.int i)) (hb : Val tb σ H (.int j)) (h : 0 < j) : Val (tOp (rI (fun _ j => 0 < j) fun i j => .int (i % j)) ta tb) σ H (.int (i % j)) := val_I (g := fun i j => .int (i % j)) ha hb h
theorem val_divc (ha : Val ta σ H (.int i)) (hb : Val tb σ H (.int j)) (h : CDiv i j) : Val (tOp (rI CDiv fun i j => .int (i / j)) ta tb) σ H (.int (i / j)) := val_I (g := fun i j => .int (i / j)) ha hb h
theorem val_pow {n : Nat} (ha : Val ta σ H (.int i)) (hb : Val tb σ H (.int j)) (e : j = (n : Int)) (hn : n ≤ 1000000) (h : i.natAbs < 2 ^ 64) : Val (tOp (rI CPow fun i j => .int (i ^ j.toNat)) ta tb) σ H (.int (i ^ n)) := by
  subst e
  exact val_I (g := fun i j => .int (i ^ j.toNat)) ha hb ⟨by omega, by omega, h⟩
theorem val_shl {n : Nat} (ha : Val ta σ H (.int i)) (hb : Val tb σ H (.int j)) (h : CPow i j) : Val (tOp (rI CPow fun i j => .int (i * 2 ^ j.toNat)) ta tb) σ H (.int (i * 2 ^ j.toNat)) := val_I (g := fun i j => .int (i * 2 ^ j.toNat)) ha hb h
theorem val_shr (ha : Val ta σ H (.int i)) (hb : Val tb σ H (.int j)) (h : 0 ≤ j) : Val (tOp (rI (fun _ j => 0 ≤ j) fun i j => .int (i / 2 ^ j.toNat)) ta tb) σ H (.int (i / 2 ^ j.toNat)) := val_I (g := fun i j => .int (i / 2 ^ j.toNat)) ha hb h
theorem ans_B (h : Val te σ H (.bl b)) : Ans (tB te) σ H b := ans_val h
theorem ans_N (h : Ans t σ H b) : Ans (tNot t) σ H (!b) := ans_not h
theorem ans_andB (h1 : Ans t σ H a) (h2 : a = true → Ans tu σ H b) : Ans (tAnd t tu) σ H (a && b) := by
  cases a with
  | true => exact ans_and h1 (h2 rfl)
  | false => exact ans_and0 h1
theorem ans_orB (h1 : Ans t σ H a) (h2 : a = false → Ans tu σ H b) : Ans (tOr t tu) σ H (a || b) := by
  cases a with
  | true => exact ans_or1 h1
  | false => exact ans_or h1 (h2 rfl)
theorem ans_andO {m : Option Bool} (h1 : Ans t σ H a) (hc : (if a = true then m else some false) = some c) (h2 : m = some c → Ans tu σ H c) : Ans (tAnd t tu) σ H c := by
  cases a with
  | true => exact ans_and h1 (h2 hc)
  | false => cases hc; exact ans_and0 h1
theorem ans_orO {m : Option Bool} (h1 : Ans t σ H a) (hc : (if a = true then some true else m) = some c) (h2 : m = some c → Ans tu σ H c) : Ans (tOr t tu) σ H c := by
  cases a with
  | true => cases hc; exact ans_or1 h1
  | false => exact ans_or h1 (h2 hc)
theorem val_notV (h : Val ta σ H (.bl a)) : Val (tNotV ta) σ H (.bl (!a)) := fun Q q => h _ ⟨a, rfl, q⟩
theorem val_andV (h1 : Val ta σ H (.bl a)) (h2 : a = true → Val tb σ H (.bl b)) : Val (tAndV ta tb) σ H (.bl (a && b)) := fun Q q => h1 _ ⟨a, rfl, by
  cases a with
  | true => exact iteT (h2 rfl Q q)
  | false => exact iteF q⟩
theorem val_orV (h1 : Val ta σ H (.bl a)) (h2 : a = false → Val tb σ H (.bl b)) : Val (tOrV ta tb) σ H (.bl (a || b)) := fun Q q => h1 _ ⟨a, rfl, by
  cases a with
  | true => exact iteT q
  | false => exact iteF (h2 rfl Q q)⟩
theorem val_andVO {m : Option Bool} (h1 : Val ta σ H (.bl a)) (hc : (if a = true then m else some false) = some c) (h2 : m = some c → Val tb σ H (.bl c)) : Val (tAndV ta tb) σ H (.bl c) := fun Q q => h1 _ ⟨a, rfl, by
  cases a with
  | true => exact iteT (h2 hc Q q)
  | false => cases hc; exact iteF q⟩
theorem val_orVO {m : Option Bool} (h1 : Val ta σ H (.bl a)) (hc : (if a = true then some true else m) = some c) (h2 : m = some c → Val tb σ H (.bl c)) : Val (tOrV ta tb) σ H (.bl c) := fun Q q => h1 _ ⟨a, rfl, by
  cases a with
  | true => cases hc; exact iteT q
  | false => exact iteF (h2 hc Q q)⟩
/-! ### readings taken apart -/
theorem w_op {r : R2} (h : ta σ H fun x H1 => tb σ H1 fun y H2 => r x y H2 Q) : tOp r ta tb σ H Q := h
theorem w_un {r : V → Hp → VK → Prop} (h : ta σ H fun x H1 => r x H1 Q) : tUn r ta σ H Q := h
theorem w_cb {r : List V → Hp → VK → Prop} {ts : TA} (h : ts σ H fun vs H1 => r vs H1 Q) : tCB r ts σ H Q := h
theorem w_call {sp : Sp} {dvs : List V} {E : XK} {ts : TA} (h : ts σ H fun vs H1 => sp (vs ++ dvs) H1 Q E) : tCall sp dvs E ts σ H Q := h
theorem w_cons {tr : TA} {Q : List V → Hp → Prop} (h : ta σ H fun x H1 => tr σ H1 fun xs H2 => Q (x :: xs) H2) : tCons ta tr σ H Q := h
theorem w_nil {Q : List V → Hp → Prop} (h : Q [] H) : tNil σ H Q := h
theorem w_args {ts : TA} {vs : List V} {Q : List V → Hp → Prop} (h : VaA ts σ H vs) (k : Q vs H) : ts σ H Q := h Q k
def LstG (xs : List V) (H : Hp) (Q : VK) : Prop := xs.length ≤ sizeLine ∧ ∀ p, H p = none → Q (.ref p) (upd H p (.lst xs))
def TupG (xs : List V) (H : Hp) (Q : VK) : Prop := xs.length ≤ sizeLine ∧ ∀ p, H p = none → Q (.ref p) (upd H p (.tup xs))
theorem w_lst {ts : TA} (h : ts σ H fun xs H1 => LstG xs H1 Q) : L2.tLst ts σ H Q := h
theorem w_tup {ts : TA} (h : ts σ H fun xs H1 => TupG xs H1 Q) : L2.tTup ts σ H Q := h
theorem w_test {Q : Bool → Hp → Prop} (h : te σ H fun x H' => ∃ k, x = .bl k ∧ Q k H') : tTest te σ H Q := h
theorem w_B {Q : Bool → Hp → Prop} (h : te σ H fun x H' => ∃ k, x = .bl k ∧ Q k H') : tB te σ H Q := h
theorem w_bl {Q : Bool → Hp → Prop} (k : Q b H) : ∃ k, V.bl b = .bl k ∧ Q k H := ⟨b, rfl, k⟩
theorem w_not {Q : Bool → Hp → Prop} (h : t σ H fun c H1 => Q (!c) H1) : tNot t σ H Q := h
theorem w_and {Q : Bool → Hp → Prop} (h : t σ H fun c H1 => if c = true then tu σ H1 Q else Q false H1) : tAnd t tu σ H Q := h
theorem w_or {Q : Bool → Hp → Prop} (h : t σ H fun c H1 => if c = true then Q true H1 else tu σ H1 Q) : tOr t tu σ H Q := h
theorem w_andV (h : ta σ H fun x H1 => ∃ c, x = .bl c ∧ if c = true then tb σ H1 Q else Q (.bl false) H1) : tAndV ta tb σ H Q := h
theorem w_orV (h : ta σ H fun x H1 => ∃ c, x = .bl c ∧ if c = true then Q (.bl true) H1 else tb σ H1 Q) : tOrV ta tb σ H Q := h
theorem w_notV (h : ta σ H fun x H1 => ∃ c, x = .bl c ∧ Q (.bl (!c)) H1) : tNotV ta σ H Q := h
theorem w_blV {P : Bool → Prop} (k : P b) : ∃ k, V.bl b = .bl k ∧ P k := ⟨b, rfl, k⟩
theorem w_I0 {g : Int → Int → V} (k : Q (g i j) H) : rI0 g (.int i) (.int j) H Q := ⟨i, j, rfl, rfl, k⟩
theorem w_I {C : Int → Int → Prop} {g : Int → Int → V} (hc : C i j) (k : Q (g i j) H) : rI C g (.int i) (.int j) H Q := ⟨i, j, rfl, rfl, hc, k⟩
theorem w_U {g : Int → V} (k : Q (g i) H) : rU g (.int i) H Q := ⟨i, rfl, k⟩
theorem w_mul {r : Int} (h : Mi.mul i j = some r) (k : Q (.int r) H) : rI CMul (fun i j => .int (i * j)) (.int i) (.int j) H Q := ⟨i, j, rfl, rfl, (mulC h).1, by show Q (.int (i * j)) H; rw [(mulC h).2]; exact k⟩
theorem w_mod {r : Int} (h : Mi.mod i j = some r) (k : Q (.int r) H) : rI (fun _ j => 0 < j) (fun i j => .int (i % j)) (.int i) (.int j) H Q := ⟨i, j, rfl, rfl, (modC h).1, by show Q (.int (i % j)) H; rw [(modC h).2]; exact k⟩
theorem w_fdiv {r : Int} (h : Mi.fdiv i j = some r) (k : Q (.int r) H) : rI CDivW (fun i j => .int (i / j)) (.int i) (.int j) H Q := ⟨i, j, rfl, rfl, (divC h).1, by show Q (.int (i / j)) H; rw [(divC h).2]; exact k⟩
theorem w_eqI (k : Q (.bl (decide (i = j))) H) : rEq (.int i) (.int j) H Q := ⟨rfl, by rw [dI]; exact k⟩
theorem w_neI (k : Q (.bl (!decide (i = j))) H) : rNe (.int i) (.int j) H Q := ⟨rfl, by rw [dI]; exact k⟩
theorem w_eqB (k : Q (.bl (decide (b = c))) H) : rEq (.bl b) (.bl c) H Q := ⟨rfl, by rw [dB]; exact k⟩
theorem w_neB (k : Q (.bl (!decide (b = c))) H) : rNe (.bl b) (.bl c) H Q := ⟨rfl, by rw [dB]; exact k⟩
theorem w_int (k : Q (.int i) H) : rInt1 [.int i] H Q := .inl ⟨i, rfl, k⟩
theorem w_max2 (k : Q (.int (max i j)) H) : rMax2 [.int i, .int j] H Q := ⟨i, j, rfl, by
  have e : (if j > i then j else i) = max i j := by split <;> omega
  rw [e]; exact k⟩
theorem w_min2 (k : Q (.int (min i j)) H) : rMin2 [.int i, .int j] H Q := ⟨i, j, rfl, by
  have e : (if j < i then j else i) = min i j := by split <;> omega
  rw [e]; exact k⟩
theorem w_lenL {xs : List α} (r : (yLst τ).rep K H F v xs) (k : Q (.int (xs.length : Int)) H) : rLenQ K [v] H Q := by
  obtain ⟨a, vs, e, s, q⟩ := lst_sq r
  subst e
  exact ⟨a, vs, rfl, .inl s, by rw [pr_len q]; exact k⟩
theorem w_lenT {xs : List α} (r : (yTupL τ).rep K H F v xs) (k : Q (.int (xs.length : Int)) H) : rLenQ K [v] H Q := by
  obtain ⟨a, vs, e, s, q⟩ := tupl_sq r
  subst e
  exact ⟨a, vs, rfl, .inr s, by rw [pr_len q]; exact k⟩
theorem w_ixL {xs : List α} {x : α} (r : (yLst τ).rep K H F v xs) (h : Mi.at_ xs i = some x) (k : ∀ u, τ.rep K H [] u x → Q u H) : rIxL K v (.int i) H Q := by
  obtain ⟨a, vs, e, s, q⟩ := lst_sq r
  subst e
  obtain ⟨u, e, ru⟩ := pr_at q h
  exact ⟨a, vs, i, u, rfl, rfl, s, e, k u ru⟩
theorem w_ixT {xs : List α} {x : α} (r : (yTupL τ).rep K H F v xs) (h : Mi.at_ xs i = some x) (k : ∀ u, τ.rep K H [] u x → Q u H) : rIxT K v (.int i) H Q := by
  obtain ⟨a, vs, e, s, q⟩ := tupl_sq r
  subst e
  obtain ⟨u, e, ru⟩ := pr_at q h
  exact ⟨a, vs, i, u, rfl, rfl, s, e, k u ru⟩
theorem e_lst {vs : List V} {xs : List α} (z : vs.length ≤ Mi.big) (r : Paired (fun u x => τ.rep K H [] u x) vs xs) (k : ∀ p H', H p = none → Chg [] H H' → (yLst τ).rep K H' [p] (.ref p) xs → Q (.ref p) H') :
    LstG vs H Q := ⟨sz z, fun p np => k p _ np (Chg.new np)
      ⟨p, vs, rfl, rfl, upd_same, Paired.mapP r fun u x q => Ty.ex q (Chg.new np)⟩⟩
theorem e_tup {ty : Tys α} {vs : List V} {d : α} {F : List Addr} (z : vs.length ≤ Mi.big) (r : ty.rep K H F vs d) (k : ∀ p H', H p = none → Chg [] H H' → (yTup ty).rep K H' F (.ref p) d → Q (.ref p) H') :
    TupG vs H Q := ⟨sz z, fun p np => k p _ np (Chg.new np)
      ⟨p, vs, rfl, .inl (.inl upd_same), ty.keep r fun b o e _ => by rw [upd_ne (ne_of_none e np)]; exact e⟩⟩
/-! ### statements -/
theorem w_asg {g : TG} (h : te σ H fun x H1 => g x σ H1 D.nx) : tAsg te g D σ H := h
theorem w_drop (h : te σ H fun _ H1 => D.nx σ H1) : tDrop te D σ H := h
theorem w_ret (h : te σ H D.rt) : tRet te D σ H := h
theorem w_retN (h : D.rt .non H) : tRetN D σ H := h
theorem w_next (h : D.nx σ H) : tNext D σ H := h
theorem w_cont (h : D.ct σ H) : tCont D σ H := h
theorem w_break (h : D.bk σ H) : tBreak D σ H := h
theorem w_ifS (h : t σ H fun b H1 => if b = true then t1 D σ H1 else t2 D σ H1) : tIfS t t1 t2 D σ H := h
theorem w_ifE (h : t σ H fun c H1 => if c = true then ta σ H1 Q else tb σ H1 Q) : tIf t ta tb σ H Q := h
theorem w_gsub {to ti : TE} {ts : TSet} {Q : L2.St → Hp → Prop} (h : to σ H fun o H1 => ti σ H1 fun i H2 => ts o i v H2 fun H3 => Q σ H3) : gSub to ti ts v σ H Q := h
theorem w_bm {T : String} {r : V → List V → Hp → VK → Prop} {to : TE} {ts : TA} (h : to σ H fun x H1 => tyV K T x H1 ∧ ts σ H1 fun xs H2 => r x xs H2 Q) : tBM K T r to ts σ H Q := h
theorem w_bm0 {T : String} {r : V → List V → Hp → VK → Prop} {to : TE} (h : to σ H fun x H1 => tyV K T x H1 ∧ r x [] H1 Q) : tBM0 K T r to σ H Q := h
theorem tyv_lst {xs : List α} (r : (yLst τ).rep K H F v xs) : tyV K "list" v H := by
  obtain ⟨a, vs, rfl, s, q⟩ := lst_sq r
  exact .inl ⟨rfl, _, s⟩
/-- a join of tests -/
theorem j_tt {R : Hp → Prop} {Q : Bool → Hp → Prop} (c : Bool) (w : ∀ Q' : Bool → Hp → Prop, (∀ H', R H' → Q' c H') → t σ H Q') (k : ∀ H', R H' → Q c H') : t σ H Q := w Q k
theorem j_te {R : Hp → Prop} (x : V) (w : ∀ Q' : VK, (∀ H', R H' → Q' x H') → te σ H Q') (k : ∀ H', R H' → Q x H') : te σ H Q := w Q k
/-! ### statements with what follows -/
theorem q_asg {g : TG} (h : te σ H fun x H1 => g x σ H1 (t2 D)) : tSeq (tAsg te g) t2 D σ H := h
theorem q_setE {k : Nat} {w : V} (h : Val te σ H v) (ev : v = w) (e : σ.set k (some w) = σ') (q : t2 D σ' H) : tSeq (tAsg te (gName k)) t2 D σ H := by
  subst ev
  exact h _ (by show t2 D (σ.set k (some v)) H; rw [e]; exact q)
theorem q_drop (h : te σ H fun _ H1 => t2 D σ H1) : tSeq (tDrop te) t2 D σ H := h
theorem q_ret (h : te σ H D.rt) : tSeq (tRet te) t2 D σ H := h
theorem q_retN (h : D.rt .non H) : tSeq tRetN t2 D σ H := h
theorem q_pass (h : t2 D σ H) : tSeq tNext t2 D σ H := h
theorem q_cont (h : D.ct σ H) : tSeq tCont t2 D σ H := h
theorem q_brk (h : D.bk σ H) : tSeq tBreak t2 D σ H := h
theorem q_if {t3 : TS} (h : Ans t σ H b) (h1 : b = true → t1 { D with nx := t2 D } σ H) (h2 : b = false → t3 { D with nx := t2 D } σ H) : tSeq (tIfS t t1 t3) t2 D σ H := h _ (c_if h1 h2)
theorem q_ifS {t3 : TS} (h : t σ H fun b H1 => if b = true then t1 { D with nx := t2 D } σ H1 else t3 { D with nx := t2 D } σ H1) : tSeq (tIfS t t1 t3) t2 D σ H := h
theorem w_fall (h : t2 D σ H) : tNext { D with nx := t2 D } σ H := h
theorem w_nextJ {nx bk ct : L2.St → Hp → Prop} {rt : VK} (h : nx σ H) : tNext (Ends.mk nx rt bk ct) σ H := h
theorem q_aug {k : Nat} {f : Int → Int → Int} {m n p : Int} (hx : σ[k]? = some (some (.int m))) (h : Val te σ H (.int n)) (en : f m n = p) (e : σ.set k (some (.int p)) = σ') (q : t2 D σ' H) : tSeq (tAug k te (ipI f)) t2 D σ H :=
  ⟨_, hx, h _ ⟨m, n, rfl, rfl, by rw [en]; show t2 D (List.set σ k (some (.int p))) H; rw [e]; exact q⟩⟩
/-! ### loops -/
def LoopG (J : It) (g : TG) (tb : TS) (D : Ends) (nx : L2.St → Hp → Prop) (σ : L2.St) (H : Hp) : Prop := ∃ W : Nat → Nat → L2.St → Hp → Prop, (∃ m, W 0 m σ H) ∧ ∀ i m σ H, W i m σ H →
  (J.stop i H ∧ nx σ H) ∨ (J.go i H ∧ ∃ N : L2.St → Hp → Prop, (∀ σ' H', N σ' H' → ∃ m', m' < m ∧ W (i + 1) m' σ' H') ∧ ∀ x H', J.yld i H x H' → g x σ H' fun σ2 H2 => tb { D with nx := N, ct := N, bk := nx } σ2 H2)
theorem q_for {wi : TI} {g : TG} {tb : TS} (h : wi σ H fun J H1 => LoopG J g tb D (t2 D) σ H1) : tSeq (tFor wi g tb) t2 D σ H := h
theorem w_iList {tl : TE} {R : It → Hp → Prop} (h : tl σ H fun x H1 => ∃ a, x = .ref a ∧ (∃ xs, SqL K H1 a xs) ∧ R (Itl K a) H1) : iList K tl σ H R := h
theorem w_iTup {tl : TE} {R : It → Hp → Prop} (h : tl σ H fun x H1 => ∃ a, x = .ref a ∧ (∃ xs, SqT K H1 a xs) ∧ R (Itt K a) H1) : iTup K tl σ H R := h
theorem w_iRng1 {ts : TA} {R : It → Hp → Prop} (h : ts σ H fun vs H1 => ∃ j : Int, vs = [.int j] ∧ -(2 ^ 62) ≤ j ∧ j < 2 ^ 62 ∧ R (Itr 0 j.toNat) H1) : iRng1 ts σ H R := h
theorem w_iRng2 {ts : TA} {R : It → Hp → Prop} (h : ts σ H fun vs H1 => ∃ i j : Int, vs = [.int i, .int j] ∧ (-(2 ^ 62) ≤ i ∧ i < 2 ^ 62 ∧ -(2 ^ 62) ≤ j ∧ j < 2 ^ 62) ∧ R (Itr i (j - i).toNat) H1) : iRng2 ts σ H R := h
theorem rngO_some {lo hi : Int} {g : List Int} (h : Mi.rngO lo hi = some g) : g = Mi.rng lo hi ∧ (-(2 ^ 60) ≤ lo ∧ lo < 2 ^ 60) ∧ (-(2 ^ 60) ≤ hi ∧ hi < 2 ^ 60) := by
  unfold Mi.rngO at h
  split at h
  · rename_i c
    exact ⟨(Option.some.inj h).symm, c⟩
  · cases h
theorem rng_len (lo hi : Int) : (Mi.rng lo hi).length = (hi - lo).toNat := by unfold Mi.rng; rw [List.length_map, List.length_range]
theorem rng_at {lo hi : Int} {i : Nat} (h : i < (hi - lo).toNat) : (Mi.rng lo hi)[i]? = some (lo + i) := by
  unfold Mi.rng
  rw [List.getElem?_map, List.getElem?_range h]
  rfl
theorem l_rng {g : TG} {tb : TS} {nx : L2.St → Hp → Prop} {lo hi : Int} (Pv : Nat → L2.St → Hp → Prop) (h0 : Pv 0 σ H)
    (hs : ∀ (i : Nat) (x : Int) σ' H', (Mi.rng lo hi)[i]? = some x → Pv i σ' H' → g (.int x) σ' H' fun σ2 H2 => tb { D with nx := Pv (i + 1), ct := Pv (i + 1), bk := nx } σ2 H2) (hd : ∀ σ' H', Pv (Mi.rng lo hi).length σ' H' → nx σ' H') :
    LoopG (Itr lo (hi - lo).toNat) g tb D nx σ H := for_range (D := { D with nx := nx }) (lo := lo) (n := (hi - lo).toNat) Pv h0 (fun i σ' H' hi' p => hs i _ σ' H' (rng_at hi') p) (fun σ' H' p => hd σ' H' (by rw [rng_len]; exact p))
theorem l_rng1 {g : TG} {tb : TS} {nx : L2.St → Hp → Prop} {hi : Int} {xs : List Int} (hg : Mi.rngO 0 hi = some xs) (Pv : Nat → L2.St → Hp → Prop) (h0 : Pv 0 σ H)
    (hs : ∀ (i : Nat) (x : Int) σ' H', xs[i]? = some x → Pv i σ' H' → g (.int x) σ' H' fun σ2 H2 => tb { D with nx := Pv (i + 1), ct := Pv (i + 1), bk := nx } σ2 H2) (hd : ∀ σ' H', Pv xs.length σ' H' → nx σ' H') :
    ∃ j : Int, [V.int hi] = [.int j] ∧ -(2 ^ 62) ≤ j ∧ j < 2 ^ 62 ∧ LoopG (Itr 0 j.toNat) g tb D nx σ H := by
  obtain ⟨rfl, _, h1, h2⟩ := rngO_some hg
  refine ⟨hi, rfl, by omega, by omega, ?_⟩
  have e : hi.toNat = (hi - 0).toNat := by rw [Int.sub_zero]
  rw [e]
  exact l_rng Pv h0 hs hd
theorem l_rng2 {g : TG} {tb : TS} {nx : L2.St → Hp → Prop} {lo hi : Int} {xs : List Int} (hg : Mi.rngO lo hi = some xs) (Pv : Nat → L2.St → Hp → Prop) (h0 : Pv 0 σ H)
    (hs : ∀ (i : Nat) (x : Int) σ' H', xs[i]? = some x → Pv i σ' H' → g (.int x) σ' H' fun σ2 H2 => tb { D with nx := Pv (i + 1), ct := Pv (i + 1), bk := nx } σ2 H2) (hd : ∀ σ' H', Pv xs.length σ' H' → nx σ' H') :
    ∃ i j : Int, [V.int lo, V.int hi] = [.int i, .int j] ∧ (-(2 ^ 62) ≤ i ∧ i < 2 ^ 62 ∧ -(2 ^ 62) ≤ j ∧ j < 2 ^ 62) ∧ LoopG (Itr i (j - i).toNat) g tb D nx σ H := by
  obtain ⟨rfl, h1, h2⟩ := rngO_some hg
  exact ⟨lo, hi, rfl, by omega, l_rng Pv h0 hs hd⟩
theorem l_lst {g : TG} {tb : TS} {nx : L2.St → Hp → Prop} {xs : List α} (r : (yLst τ).rep K H F v xs) (Pv : Nat → L2.St → Hp → Prop) (h0 : Pv 0 σ H) (hl : ∀ i σ' H', Pv i σ' H' → (yLst τ).rep K H' F v xs)
    (hs : ∀ (i : Nat) (x : α) (u : V) σ' H', xs[i]? = some x → τ.rep K H' [] u x → Pv i σ' H' → g u σ' H' fun σ2 H2 => tb { D with nx := Pv (i + 1), ct := Pv (i + 1), bk := nx } σ2 H2) (hd : ∀ σ' H', Pv xs.length σ' H' → nx σ' H') :
    ∃ a, v = .ref a ∧ (∃ xs, SqL K H a xs) ∧ LoopG (Itl K a) g tb D nx σ H := by
  obtain ⟨a, vs, e, s, q⟩ := lst_sq r
  refine ⟨a, e, ⟨vs, s⟩, fun i m σ' H' => m = xs.length - i ∧ i ≤ xs.length ∧ Pv i σ' H', ⟨xs.length, by omega, Nat.zero_le _, h0⟩, ?_⟩
  rintro i m σ' H' ⟨rfl, hi, p⟩
  obtain ⟨a', vs', e', s', q'⟩ := lst_sq (hl i σ' H' p)
  obtain rfl : a = a' := by rw [e] at e'; exact V.ref.inj e'
  by_cases hlt : i < xs.length
  · obtain ⟨u, hu, ru⟩ := pr_get q' (List.getElem?_eq_getElem hlt)
    refine .inr ⟨⟨vs', u, s', hu⟩, Pv (i + 1), fun σ2 H2 p' => ⟨xs.length - (i + 1), by omega, rfl, hlt, p'⟩, fun x H2 y => ?_⟩
    obtain ⟨rfl, y⟩ := y
    obtain rfl : x = u := Option.some.inj ((y _ s').symm.trans hu)
    exact hs i _ _ σ' _ (List.getElem?_eq_getElem hlt) ru p
  · obtain rfl : i = xs.length := by omega
    exact .inl ⟨⟨vs', s', by rw [pr_len q']; exact Nat.le_refl _⟩, hd σ' H' p⟩
theorem l_tup {g : TG} {tb : TS} {nx : L2.St → Hp → Prop} {xs : List α} (r : (yTupL τ).rep K H F v xs) (Pv : Nat → L2.St → Hp → Prop) (h0 : Pv 0 σ H) (hl : ∀ i σ' H', Pv i σ' H' → (yTupL τ).rep K H' F v xs)
    (hs : ∀ (i : Nat) (x : α) (u : V) σ' H', xs[i]? = some x → τ.rep K H' [] u x → Pv i σ' H' → g u σ' H' fun σ2 H2 => tb { D with nx := Pv (i + 1), ct := Pv (i + 1), bk := nx } σ2 H2) (hd : ∀ σ' H', Pv xs.length σ' H' → nx σ' H') :
    ∃ a, v = .ref a ∧ (∃ xs, SqT K H a xs) ∧ LoopG (Itt K a) g tb D nx σ H := by
  obtain ⟨a, vs, e, s, q⟩ := tupl_sq r
  refine ⟨a, e, ⟨vs, s⟩, fun i m σ' H' => m = xs.length - i ∧ i ≤ xs.length ∧ Pv i σ' H', ⟨xs.length, by omega, Nat.zero_le _, h0⟩, ?_⟩
  rintro i m σ' H' ⟨rfl, hi, p⟩
  obtain ⟨a', vs', e', s', q'⟩ := tupl_sq (hl i σ' H' p)
  obtain rfl : a = a' := by rw [e] at e'; exact V.ref.inj e'
  by_cases hlt : i < xs.length
  · obtain ⟨u, hu, ru⟩ := pr_get q' (List.getElem?_eq_getElem hlt)
    refine .inr ⟨⟨vs', u, s', hu⟩, Pv (i + 1), fun σ2 H2 p' => ⟨xs.length - (i + 1), by omega, rfl, hlt, p'⟩, fun x H2 y => ?_⟩
    obtain ⟨rfl, y⟩ := y
    obtain rfl : x = u := Option.some.inj ((y _ s').symm.trans hu)
    exact hs i _ _ σ' _ (List.getElem?_eq_getElem hlt) ru p
  · obtain rfl : i = xs.length := by omega
    exact .inl ⟨⟨vs', s', by rw [pr_len q']; exact Nat.le_refl _⟩, hd σ' H' p⟩
end
/-! ### the items of tuples -/
/-- the n-th item has the kind τ and the data p d -/
def At {α β : Type} (ts : Tys α) (n : Nat) (τ : Ty β) (p : α → β) : Prop := ∀ {K : PySem.W.Frag} {H : Hp} {F : List Addr} {vs : List V} {d : α}, ts.rep K H F vs d → ∃ u F1, vs[n]? = some u ∧ τ.rep K H F1 u (p d) ∧ ∀ a ∈ F1, a ∈ F
theorem at1 {α : Type} {τ : Ty α} : At (sOne τ) 0 τ id := fun h => by
  obtain ⟨v, rfl, r⟩ := h
  exact ⟨v, _, rfl, r, fun _ h => h⟩
theorem at0 {α β : Type} {τ : Ty α} {ts : Tys β} : At (sCons τ ts) 0 τ (fun d => d.1) := fun h => by
  obtain ⟨v, ws, F1, F2, rfl, rfl, r, q⟩ := h
  exact ⟨v, F1, rfl, r, fun _ h => List.mem_append_left _ h⟩
theorem atS {α β γ : Type} {τ : Ty α} {ts : Tys β} {n : Nat} {υ : Ty γ} {p : β → γ} (A : At ts n υ p) : At (sCons τ ts) (n + 1) υ (fun d => p d.2) := fun h => by
  obtain ⟨v, ws, F1, F2, rfl, rfl, r, q⟩ := h
  obtain ⟨u, F3, e, ru, sub⟩ := A q
  exact ⟨u, F3, e, ru, fun _ h => List.mem_append_right _ (sub _ h)⟩
theorem Dj.sub {F G F1 : List Addr} (d : Dj F G) (s : ∀ a ∈ F1, a ∈ F) : Dj F1 G := fun a h => d a (s a h)
theorem itm_tup {α β : Type} {ts : Tys α} {n : Nat} {τ : Ty β} {p : α → β} {K : PySem.W.Frag} {H : Hp} {F : List Addr} {v : V} {d : α} (A : At ts n τ p) (r : (yTup ts).rep K H F v d) :
    ∃ u F1, τ.rep K H F1 u (p d) ∧ (∀ a ∈ F1, a ∈ F) ∧ (∀ {Q : VK}, Q u H → rIxT K v (.int (n : Int)) H Q) ∧ ∀ {σ : L2.St} {ta tb : TE}, Val ta σ H v → Val tb σ H (.int (n : Int)) → Val (tOp (rIxT K) ta tb) σ H u := by
  obtain ⟨a, vs, rfl, s, q⟩ := r
  obtain ⟨u, F1, e, ru, sub⟩ := A q
  have k : ∀ {Q : VK}, Q u H → rIxT K (.ref a) (.int (n : Int)) H Q := fun k => ⟨a, vs, n, u, rfl, rfl, s, atI_nat e, k⟩
  exact ⟨u, F1, ru, sub, k, fun ha hb => val_op ha hb fun Q q => k q⟩
end G

namespace G
open PySem PySem.Spec PyProof.Rows L2
section
variable {K : PySem.W.Frag} {σ σ' : L2.St} {H : Hp} {F G F1 F2 : List Addr} {ta tb te : TE} {v u x y w : V} {i j : Int} {t tu : TT} {b c a : Bool} {α β : Type} {τ : Ty α} {Q : VK} {D : Ends} {t1 t2 : TS}
theorem s_setE {k : Nat} (h : Val te σ H v) (ev : v = w) (e : σ.set k (some w) = σ') (q : D.nx σ' H) : tAsg te (gName k) D σ H := s_set (ev ▸ h) e q
theorem g_nameE {k : Nat} {Q : L2.St → Hp → Prop} (ev : v = w) (e : σ.set k (some w) = σ') (q : Q σ' H) : gName k v σ H Q := g_name (by rw [ev]; exact e) q
theorem s_aug {k : Nat} {f : Int → Int → Int} {m n p : Int} (hx : σ[k]? = some (some (.int m))) (h : Val te σ H (.int n)) (en : f m n = p) (e : σ.set k (some (.int p)) = σ') (q : D.nx σ' H) : tAug k te (ipI f) D σ H :=
  ⟨_, hx, h _ ⟨m, n, rfl, rfl, by rw [en]; show D.nx (List.set σ k (some (.int p))) H; rw [e]; exact q⟩⟩
/-! ### None or data -/
theorem nn_int : V.int i ≠ .non := fun z => nomatch z
theorem nn_bl : V.bl b ≠ .non := fun z => nomatch z
theorem nn_str {s : Str} : V.str s ≠ .non := fun z => nomatch z
theorem nn_lst {xs : List α} (r : (yLst τ).rep K H F v xs) : v ≠ .non := by obtain ⟨a, vs, rfl, _⟩ := r; exact fun z => nomatch z
theorem nn_tupl {xs : List α} (r : (yTupL τ).rep K H F v xs) : v ≠ .non := by obtain ⟨a, vs, rfl, _⟩ := r; exact fun z => nomatch z
theorem nn_tup {ts : Tys α} {d : α} (r : (yTup ts).rep K H F v d) : v ≠ .non := by obtain ⟨a, vs, rfl, _⟩ := r; exact fun z => nomatch z
theorem opt_some {d : Option α} {x : α} (r : (yOpt τ).rep K H F v d) (h : d = some x) : τ.rep K H F v x := by subst h; exact r.2
theorem opt_int {d : Option Int} {x : Int} (r : (yOpt yInt).rep K H F v d) (h : d = some x) : F = [] ∧ v = .int x := opt_some r h
theorem opt_bool {d : Option Bool} {x : Bool} (r : (yOpt yBool).rep K H F v d) (h : d = some x) : F = [] ∧ v = .bl x := opt_some r h
theorem opt_str {d : Option (List Nat)} {x : List Nat} (r : (yOpt yStr).rep K H F v d) (h : d = some x) : F = [] ∧ v = .str (toS x) := opt_some r h
theorem opt_dec {d : Option α} (r : (yOpt τ).rep K H F v d) : decide (v = .non) = d.isNone := by
  cases d with
  | none => obtain ⟨_, rfl⟩ := r; rfl
  | some x => exact decide_eq_false r.1
theorem opt_decN {d : Option α} (r : (yOpt τ).rep K H F v d) : (!decide (v = .non)) = d.isSome := by
  rw [opt_dec r]; cases d <;> rfl
theorem val_isN {d : Option α} (r : (yOpt τ).rep K H F v d) (ha : Val ta σ H v) : Val (tOp rIsN ta (tC .non)) σ H (.bl d.isNone) := val_op ha val_c fun Q q => ⟨rfl, by rw [opt_dec r]; exact q⟩
theorem val_notN {d : Option α} (r : (yOpt τ).rep K H F v d) (ha : Val ta σ H v) : Val (tOp rNotN ta (tC .non)) σ H (.bl d.isSome) := val_op ha val_c fun Q q => ⟨rfl, by rw [opt_decN r]; exact q⟩
theorem w_isN {d : Option α} (r : (yOpt τ).rep K H F v d) (k : Q (.bl d.isNone) H) : rIsN v .non H Q := ⟨rfl, by rw [opt_dec r]; exact k⟩
theorem w_notN {d : Option α} (r : (yOpt τ).rep K H F v d) (k : Q (.bl d.isSome) H) : rNotN v .non H Q := ⟨rfl, by rw [opt_decN r]; exact k⟩
/-! ### footprints -/
theorem Dj.app (d1 : Dj F1 G) (d2 : Dj F2 G) : Dj (F1 ++ F2) G := fun a h => (List.mem_append.mp h).elim (d1 a) (d2 a)
theorem app_fresh {H0 : Hp} (n1 : ∀ a ∈ F1, H0 a = none) (n2 : ∀ a ∈ F2, H0 a = none) : ∀ a ∈ F1 ++ F2, H0 a = none := fun a h => (List.mem_append.mp h).elim (n1 a) (n2 a)
theorem nil_fresh {H0 : Hp} : ∀ a ∈ ([] : List Addr), H0 a = none := fun a h => nomatch h
def Fz {α : Type} (τ : Ty α) : Prop := ∀ {K : PySem.W.Frag} {H : Hp} {F : List Addr} {v : V} {d : α}, τ.rep K H F v d → F = []
def Fzs {α : Type} (τ : Tys α) : Prop := ∀ {K : PySem.W.Frag} {H : Hp} {F : List Addr} {v : List V} {d : α}, τ.rep K H F v d → F = []
theorem fz_int : Fz yInt := fun h => h.1
theorem fz_bool : Fz yBool := fun h => h.1
theorem fz_str : Fz yStr := fun h => h.1
theorem fz_none : Fz yNon := fun h => h.1
theorem fz_scr : Fz yScr := fun h => h.1
theorem fz_tupl {τ : Ty α} : Fz (yTupL τ) := fun h => by obtain ⟨_, _, _, e, _⟩ := h; exact e
theorem fz_opt {τ : Ty α} (z : Fz τ) : Fz (yOpt τ) := fun {K H F v d} h => by
  cases d with
  | none => exact h.1
  | some x => exact z h.2
theorem fzs_one {τ : Ty α} (z : Fz τ) : Fzs (sOne τ) := fun h => by obtain ⟨_, _, r⟩ := h; exact z r
theorem fzs_cons {τ : Ty α} {ts : Tys β} (z : Fz τ) (zs : Fzs ts) : Fzs (sCons τ ts) := fun h => by
  obtain ⟨_, _, F1, F2, _, e, r, q⟩ := h
  rw [e, z r, zs q]; rfl
theorem fz_tup {ts : Tys α} (z : Fzs ts) : Fz (yTup ts) := fun h => by obtain ⟨_, _, _, _, r⟩ := h; exact z r
def LenS {α : Type} (ts : Tys α) (n : Nat) : Prop := ∀ {K : PySem.W.Frag} {H : Hp} {F : List Addr} {vs : List V} {d : α}, ts.rep K H F vs d → vs.length = n
theorem lens_one {τ : Ty α} : LenS (sOne τ) 1 := fun h => by obtain ⟨_, e, _⟩ := h; rw [e]; rfl
theorem lens_cons {τ : Ty α} {ts : Tys β} {n : Nat} (z : LenS ts n) : LenS (sCons τ ts) (n + 1) := fun h => by
  obtain ⟨_, _, _, _, e, _, _, q⟩ := h
  rw [e, List.length_cons, z q]
theorem val_lenU {ts : Tys α} {d : α} {n : Nat} (l : LenS ts n) (r : (yTup ts).rep K H F v d) (ha : Val ta σ H v) : Val (tCB (rLenQ K) (tCons ta tNil)) σ H (.int (n : Int)) := by
  obtain ⟨p, vs, rfl, s, q⟩ := r
  exact fun Q k => ha _ ⟨p, vs, rfl, .inr s, by rw [l q]; exact k⟩
/-! ### unpacking -/
theorem g_names {Q : L2.St → Hp → Prop} {σ1 : L2.St} (e : σ1 = σ') (k : Q σ' H) : Q σ1 H := e ▸ k
theorem g_tup2 {β : Type} {τ1 : Ty α} {τ2 : Ty β} {d : α × β} {i1 i2 : Nat} {Q : L2.St → Hp → Prop} (r : (yTup (sCons τ1 (sOne τ2))).rep K H [] v d)
    (k : ∀ u1 u2, τ1.rep K H [] u1 d.1 → τ2.rep K H [] u2 d.2 → Q ((σ.set i1 (some u1)).set i2 (some u2)) H) : gTup K 2 (gCons (gName i1) (gCons (gName i2) gNil)) v σ H Q := by
  obtain ⟨a, vs, rfl, s, v1, ws, F1, F2, rfl, e, r1, v2, rfl, r2⟩ := r
  obtain ⟨rfl, rfl⟩ : F1 = [] ∧ F2 = [] := List.append_eq_nil_iff.mp e.symm
  exact ⟨a, _, rfl, s, rfl, v1, _, rfl, v2, _, rfl, rfl, k v1 v2 r1 r2⟩
theorem g_tup3 {β γ : Type} {τ1 : Ty α} {τ2 : Ty β} {τ3 : Ty γ} {d : α × β × γ} {i1 i2 i3 : Nat} {Q : L2.St → Hp → Prop} (r : (yTup (sCons τ1 (sCons τ2 (sOne τ3)))).rep K H [] v d)
    (k : ∀ u1 u2 u3, τ1.rep K H [] u1 d.1 → τ2.rep K H [] u2 d.2.1 → τ3.rep K H [] u3 d.2.2 → Q (((σ.set i1 (some u1)).set i2 (some u2)).set i3 (some u3)) H) : gTup K 3 (gCons (gName i1) (gCons (gName i2) (gCons (gName i3) gNil))) v σ H Q := by
  obtain ⟨a, vs, rfl, s, v1, ws, F1, F2, rfl, e, r1, v2, ws2, F3, F4, rfl, e2, r2, v3, rfl, r3⟩ := r
  obtain ⟨rfl, rfl⟩ : F1 = [] ∧ F2 = [] := List.append_eq_nil_iff.mp e.symm
  obtain ⟨rfl, rfl⟩ : F3 = [] ∧ F4 = [] := List.append_eq_nil_iff.mp e2.symm
  exact ⟨a, _, rfl, s, rfl, v1, _, rfl, v2, _, rfl, v3, _, rfl, rfl, k v1 v2 v3 r1 r2 r3⟩
theorem g_tup4 {β γ δ : Type} {τ1 : Ty α} {τ2 : Ty β} {τ3 : Ty γ} {τ4 : Ty δ} {d : α × β × γ × δ} {i1 i2 i3 i4 : Nat} {Q : L2.St → Hp → Prop} (r : (yTup (sCons τ1 (sCons τ2 (sCons τ3 (sOne τ4))))).rep K H [] v d)
    (k : ∀ u1 u2 u3 u4, τ1.rep K H [] u1 d.1 → τ2.rep K H [] u2 d.2.1 → τ3.rep K H [] u3 d.2.2.1 → τ4.rep K H [] u4 d.2.2.2 → Q ((((σ.set i1 (some u1)).set i2 (some u2)).set i3 (some u3)).set i4 (some u4)) H) : gTup K 4 (gCons (gName i1) (gCons (gName i2) (gCons (gName i3) (gCons (gName i4) gNil)))) v σ H Q := by
  obtain ⟨a, vs, rfl, s, v1, ws, F1, F2, rfl, e, r1, v2, ws2, F3, F4, rfl, e2, r2, v3, ws3, F5, F6, rfl, e3, r3, v4, rfl, r4⟩ := r
  obtain ⟨rfl, rfl⟩ : F1 = [] ∧ F2 = [] := List.append_eq_nil_iff.mp e.symm
  obtain ⟨rfl, rfl⟩ : F3 = [] ∧ F4 = [] := List.append_eq_nil_iff.mp e2.symm
  obtain ⟨rfl, rfl⟩ : F5 = [] ∧ F6 = [] := List.append_eq_nil_iff.mp e3.symm
  exact ⟨a, _, rfl, s, rfl, v1, _, rfl, v2, _, rfl, v3, _, rfl, v4, _, rfl, rfl, k v1 v2 v3 v4 r1 r2 r3 r4⟩
/-! ### range(lo, hi, -1) -/
theorem w_iRng3 {ts : TA} {R : It → Hp → Prop} (h : ts σ H fun vs H1 => ∃ (i j c : Int) (n : Nat), vs = [.int i, .int j, .int c] ∧ RgC i j c n ∧ R (Itc i c n) H1) : iRng3 ts σ H R := h
theorem l_rngD {g : TG} {tb : TS} {nx : L2.St → Hp → Prop} {lo hi : Int} {xs : List Int} (hg : Mi.rngDownO lo hi = some xs) (Pv : Nat → L2.St → Hp → Prop) (h0 : Pv 0 σ H)
    (hs : ∀ (i : Nat) (x : Int) σ' H', xs[i]? = some x → Pv i σ' H' → g (.int x) σ' H' fun σ2 H2 => tb { D with nx := Pv (i + 1), ct := Pv (i + 1), bk := nx } σ2 H2) (hd : ∀ σ' H', Pv xs.length σ' H' → nx σ' H') :
    ∃ (i j c : Int) (n : Nat), [V.int lo, V.int hi, V.int (-1)] = [.int i, .int j, .int c] ∧ RgC i j c n ∧ LoopG (Itc i c n) g tb D nx σ H := by
  unfold Mi.rngDownO at hg
  split at hg
  · rename_i hc
    obtain rfl := Option.some.inj hg
    have hl : (Mi.rngDown lo hi).length = (lo - hi).toNat := by unfold Mi.rngDown; rw [List.length_map, List.length_range]
    refine ⟨lo, hi, -1, (lo - hi).toNat, rfl, RgC.neg (by omega) (by omega) (by omega) (by omega), ?_⟩
    refine for_rangeC (D := { D with nx := nx }) (lo := lo) (c := -1) (n := (lo - hi).toNat) Pv h0 (fun i σ' H' hi' p => hs i _ σ' H' ?_ p) (fun σ' H' p => hd σ' H' (by rw [hl]; exact p))
    unfold Mi.rngDown
    rw [List.getElem?_map, List.getElem?_range hi']
    show some (lo - (i : Int)) = some (lo + (i : Int) * -1)
    congr 1
    omega
  · cases hg
end
end G
namespace G
open PySem PySem.Spec PyProof.Rows L2
/-- the def at one address is one def -/
theorem fn_law {P : Program} {w : World} {K : PySem.W.Frag} {mg : Str → Option Value} {x : Str} {k : Nat} {sp : Sp} {fa : Addr} (hfa : mg x = some (.ref fa)) {p : Str} (c : Cal P w K mg x [p] k sp) :
    ∃ fd : FuncData, (∀ (s : Shared) (v : Value), BindsTo s fd ⟨[v], []⟩ [(p, v)]) ∧ ∀ base : Heap, K.In base → base.Ns mainGlobals mg → FnOk P w K mg base CX0 k fa fd [p] sp := by
  obtain ⟨f, fd, g, _, b, ok⟩ := c.ex
  obtain rfl : fa = f := Value.ref.inj (Option.some.inj (hfa.symm.trans g))
  exact ⟨fd, fun s v => b s [v] rfl, fun base _ _ => ok base⟩
end G

namespace G
open PySem PySem.Spec PyProof.Rows L2
section
variable {K : PySem.W.Frag} {σ σ' : L2.St} {H : Hp} {F F1 F2 : List Addr} {ta tb te : TE} {v u x y w : V} {i j : Int} {t tu tt : TT} {b c a : Bool} {α β : Type} {τ : Ty α} {υ : Ty β} {Q : VK} {D : Ends} {t1 t2 : TS} {g : TG} {ws : List Nat}
/-! ### list comprehensions -/
/-- y goes to the list at D, then N -/
def AppG (D : Addr) (N : Hp → Prop) (y : V) (H : Hp) : Prop := ∃ acc, H D = some (.lst acc) ∧ acc.length < sizeLine ∧ N (upd H D (.lst (acc ++ [y])))
/-- one turn: the new list at D grows or not, then N -/
def TurnG (g : TG) (tt : TT) (te : TE) (ws : List Nat) (σ : L2.St) (D : Addr) (N : Hp → Prop) (x : V) (H : Hp) : Prop :=
  g x (wipe σ ws) H fun σ2 H2 => wipe σ2 ws = wipe σ ws ∧ tt σ2 H2 fun b H3 => if b = true then te σ2 H3 (AppG D N) else N H3
def CompG (J : It) (g : TG) (tt : TT) (te : TE) (ws : List Nat) (σ : L2.St) (H : Hp) (Q : VK) : Prop := ∀ D, H D = none → ∃ W : Nat → Nat → Hp → Prop, (∃ m, W 0 m (upd H D (.lst []))) ∧ ∀ i m H, W i m H →
  (J.stop i H ∧ Q (.ref D) H) ∨ (J.go i H ∧ ∃ N : Hp → Prop, (∀ H', N H' → ∃ m', m' < m ∧ W (i + 1) m' H') ∧ ∀ x H', J.yld i H x H' → TurnG g tt te ws σ D N x H')
theorem w_lc {wi : TI} (h : wi σ H fun J H1 => CompG J g tt te ws σ H1 Q) : tLc wi g tt te ws σ H Q := h
theorem w_yes {Q : Bool → Hp → Prop} (h : Q true H) : tYes σ H Q := h
theorem empty_lst {p : Addr} (np : H p = none) : (yLst τ).rep K (upd H p (.lst [])) [p] (.ref p) [] := ⟨p, [], rfl, rfl, upd_same, .nil⟩
theorem comp_by {J : It} (n : Nat) (Pv : Addr → Nat → Hp → Prop) (h0 : ∀ D H', H D = none → Chg [] H H' → (yLst τ).rep K H' [D] (.ref D) [] → Pv D 0 H')
    (hs : ∀ D i H', i < n → Pv D i H' → J.go i H' ∧ ∀ x H2, J.yld i H' x H2 → TurnG g tt te ws σ D (Pv D (i + 1)) x H2) (hd : ∀ D H', H D = none → Pv D n H' → J.stop n H' ∧ Q (.ref D) H') : CompG J g tt te ws σ H Q := by
  intro D hD
  refine ⟨fun i m H' => m = n - i ∧ i ≤ n ∧ Pv D i H', ⟨n, by omega, Nat.zero_le _, h0 D _ hD (Chg.new hD) (empty_lst hD)⟩, ?_⟩
  rintro i m H' ⟨rfl, hi, p⟩
  by_cases hlt : i < n
  · obtain ⟨h1, h2⟩ := hs D i H' hlt p
    exact .inr ⟨h1, Pv D (i + 1), fun H2 p' => ⟨n - (i + 1), by omega, rfl, hlt, p'⟩, h2⟩
  · obtain rfl : i = n := by omega
    exact .inl (hd D H' hD p)
theorem kc_lst {xs : List β} (r : (yLst υ).rep K H F v xs) (Pv : Addr → Nat → Hp → Prop) (h0 : ∀ D H', H D = none → Chg [] H H' → (yLst τ).rep K H' [D] (.ref D) [] → Pv D 0 H') (hl : ∀ D i H', Pv D i H' → (yLst υ).rep K H' F v xs)
    (hs : ∀ D (i : Nat) (x : β) (u : V) H', xs[i]? = some x → υ.rep K H' [] u x → Pv D i H' → TurnG g tt te ws σ D (Pv D (i + 1)) u H') (hd : ∀ D H', H D = none → Pv D xs.length H' → Q (.ref D) H') :
    ∃ a, v = .ref a ∧ (∃ xs, SqL K H a xs) ∧ CompG (Itl K a) g tt te ws σ H Q := by
  obtain ⟨a, vs, e, s, q⟩ := lst_sq r
  refine ⟨a, e, ⟨vs, s⟩, comp_by (K := K) (τ := τ) xs.length Pv h0 (fun D i H' hi p => ?_) (fun D H' hD p => ?_)⟩
  · obtain ⟨a', vs', e', s', q'⟩ := lst_sq (hl D i H' p)
    obtain rfl : a = a' := by rw [e] at e'; exact V.ref.inj e'
    obtain ⟨u, hu, ru⟩ := pr_get q' (List.getElem?_eq_getElem hi)
    refine ⟨⟨vs', u, s', hu⟩, fun x H2 y => ?_⟩
    obtain ⟨rfl, y⟩ := y
    obtain rfl : x = u := Option.some.inj ((y _ s').symm.trans hu)
    exact hs D i _ _ _ (List.getElem?_eq_getElem hi) ru p
  · obtain ⟨a', vs', e', s', q'⟩ := lst_sq (hl D _ H' p)
    obtain rfl : a = a' := by rw [e] at e'; exact V.ref.inj e'
    exact ⟨⟨vs', s', by rw [pr_len q']; exact Nat.le_refl _⟩, hd D H' hD p⟩
theorem kc_tup {xs : List β} (r : (yTupL υ).rep K H F v xs) (Pv : Addr → Nat → Hp → Prop) (h0 : ∀ D H', H D = none → Chg [] H H' → (yLst τ).rep K H' [D] (.ref D) [] → Pv D 0 H') (hl : ∀ D i H', Pv D i H' → (yTupL υ).rep K H' F v xs)
    (hs : ∀ D (i : Nat) (x : β) (u : V) H', xs[i]? = some x → υ.rep K H' [] u x → Pv D i H' → TurnG g tt te ws σ D (Pv D (i + 1)) u H') (hd : ∀ D H', H D = none → Pv D xs.length H' → Q (.ref D) H') :
    ∃ a, v = .ref a ∧ (∃ xs, SqT K H a xs) ∧ CompG (Itt K a) g tt te ws σ H Q := by
  obtain ⟨a, vs, e, s, q⟩ := tupl_sq r
  refine ⟨a, e, ⟨vs, s⟩, comp_by (K := K) (τ := τ) xs.length Pv h0 (fun D i H' hi p => ?_) (fun D H' hD p => ?_)⟩
  · obtain ⟨a', vs', e', s', q'⟩ := tupl_sq (hl D i H' p)
    obtain rfl : a = a' := by rw [e] at e'; exact V.ref.inj e'
    obtain ⟨u, hu, ru⟩ := pr_get q' (List.getElem?_eq_getElem hi)
    refine ⟨⟨vs', u, s', hu⟩, fun x H2 y => ?_⟩
    obtain ⟨rfl, y⟩ := y
    obtain rfl : x = u := Option.some.inj ((y _ s').symm.trans hu)
    exact hs D i _ _ _ (List.getElem?_eq_getElem hi) ru p
  · obtain ⟨a', vs', e', s', q'⟩ := tupl_sq (hl D _ H' p)
    obtain rfl : a = a' := by rw [e] at e'; exact V.ref.inj e'
    exact ⟨⟨vs', s', by rw [pr_len q']; exact Nat.le_refl _⟩, hd D H' hD p⟩
theorem kc_rng {lo hi : Int} (Pv : Addr → Nat → Hp → Prop) (h0 : ∀ D H', H D = none → Chg [] H H' → (yLst τ).rep K H' [D] (.ref D) [] → Pv D 0 H')
    (hs : ∀ D (i : Nat) (x : Int) H', (Mi.rng lo hi)[i]? = some x → Pv D i H' → TurnG g tt te ws σ D (Pv D (i + 1)) (.int x) H') (hd : ∀ D H', H D = none → Pv D (Mi.rng lo hi).length H' → Q (.ref D) H') :
    CompG (Itr lo (hi - lo).toNat) g tt te ws σ H Q := by
  refine comp_by (K := K) (τ := τ) (hi - lo).toNat Pv h0 (fun D i H' hi' p => ⟨hi', fun x H2 y => ?_⟩) (fun D H' hD p => ⟨Nat.le_refl _, hd D H' hD (by rw [rng_len]; exact p)⟩)
  obtain ⟨rfl, rfl⟩ := y
  exact hs D i _ _ (rng_at hi') p
theorem kc_rng1 {hi : Int} {xs : List Int} (hg : Mi.rngO 0 hi = some xs) (Pv : Addr → Nat → Hp → Prop) (h0 : ∀ D H', H D = none → Chg [] H H' → (yLst τ).rep K H' [D] (.ref D) [] → Pv D 0 H')
    (hs : ∀ D (i : Nat) (x : Int) H', xs[i]? = some x → Pv D i H' → TurnG g tt te ws σ D (Pv D (i + 1)) (.int x) H') (hd : ∀ D H', H D = none → Pv D xs.length H' → Q (.ref D) H') :
    ∃ j : Int, [V.int hi] = [.int j] ∧ -(2 ^ 62) ≤ j ∧ j < 2 ^ 62 ∧ CompG (Itr 0 j.toNat) g tt te ws σ H Q := by
  obtain ⟨rfl, _, h1, h2⟩ := rngO_some hg
  refine ⟨hi, rfl, by omega, by omega, ?_⟩
  have e : hi.toNat = (hi - 0).toNat := by rw [Int.sub_zero]
  rw [e]
  exact kc_rng (K := K) (τ := τ) Pv h0 hs hd
theorem kc_rng2 {lo hi : Int} {xs : List Int} (hg : Mi.rngO lo hi = some xs) (Pv : Addr → Nat → Hp → Prop) (h0 : ∀ D H', H D = none → Chg [] H H' → (yLst τ).rep K H' [D] (.ref D) [] → Pv D 0 H')
    (hs : ∀ D (i : Nat) (x : Int) H', xs[i]? = some x → Pv D i H' → TurnG g tt te ws σ D (Pv D (i + 1)) (.int x) H') (hd : ∀ D H', H D = none → Pv D xs.length H' → Q (.ref D) H') :
    ∃ i j : Int, [V.int lo, V.int hi] = [.int i, .int j] ∧ (-(2 ^ 62) ≤ i ∧ i < 2 ^ 62 ∧ -(2 ^ 62) ≤ j ∧ j < 2 ^ 62) ∧ CompG (Itr i (j - i).toNat) g tt te ws σ H Q := by
  obtain ⟨rfl, h1, h2⟩ := rngO_some hg
  exact ⟨lo, hi, rfl, by omega, kc_rng (K := K) (τ := τ) Pv h0 hs hd⟩
/-- the item is put to the new list -/
theorem e_app {D : Addr} {N : Hp → Prop} {xs ys : List α} {d : α} (r : (yLst τ).rep K H [D] (.ref D) xs) (ru : τ.rep K H [] u d) (hm : Mi.app xs d = some ys) (k : ∀ H', Chg [D] H H' → (yLst τ).rep K H' [D] (.ref D) ys → N H') :
    AppG D N u H := by
  obtain ⟨p, vs, e, f, g, q⟩ := r
  obtain rfl : D = p := V.ref.inj e
  unfold Mi.app at hm
  split at hm
  · rename_i hz
    cases hm
    have c : Chg [D] H (upd H D (.lst (vs ++ [u]))) := Chg.wr g (fun z => z)
    exact ⟨vs, g, Nat.lt_of_lt_of_le (by rw [pr_len q]; exact hz) line_big, k _ c ⟨D, _, rfl, rfl, upd_same, pr_app (Paired.mapP q fun _ _ z => Ty.fz z c) (.cons (Ty.fz ru c) .nil)⟩⟩
  · cases hm
/-! ### + of lists, slices, list(..), tuple(..) -/
theorem w_cat {xs ys zs : List α} (r : (yLst τ).rep K H F1 v xs) (q : (yLst τ).rep K H F2 u ys) (hm : Mi.cat xs ys = some zs) (k : ∀ p H', H p = none → Chg [] H H' → (yLst τ).rep K H' [p] (.ref p) zs → Q (.ref p) H') : rCat v u H Q := by
  obtain ⟨p, vs, rfl, rfl, g, r1⟩ := r
  obtain ⟨p2, us, rfl, rfl, g2, r2⟩ := q
  unfold Mi.cat at hm
  split at hm
  · rename_i hz
    cases hm
    refine ⟨p, p2, vs, us, rfl, rfl, g, g2, sz (by rw [pr_len r1, pr_len r2]; exact hz), fun n nn => k n _ nn (Chg.new nn) ⟨n, _, rfl, rfl, upd_same, ?_⟩⟩
    exact Paired.mapP (pr_app r1 r2) fun _ _ z => Ty.ex z (Chg.new nn)
  · cases hm
theorem w_sl {r : V → Option Int → Option Int → Hp → VK → Prop} {tl th : TO} (h : te σ H fun x H1 => tl σ H1 fun l H2 => th σ H2 fun u H3 => r x l u H3 Q) : tSl r te tl th σ H Q := h
theorem w_pon {Q : Option Int → Hp → Prop} (h : Q none H) : tNoPart σ H Q := h
theorem w_pos {Q : Option Int → Hp → Prop} (h : te σ H fun x H1 => ∃ i, x = .int i ∧ Q (some i) H1) : tPart te σ H Q := h
theorem sl_l {X : Cx} {K : PySem.W.Frag} (e : X.K = K := by rfl) : SlR X (rSlL K) := by subst e; exact sl_list
theorem cut_eq {α : Type} (xs : List α) (lo hi : Option Int) : (xs.drop (HT.sIx xs.length 0 lo)).take (HT.sIx xs.length xs.length hi - HT.sIx xs.length 0 lo) = Mi.cut xs lo hi := by
  have e : ∀ n d o, HT.sIx n d o = Mi.sIx n d o := fun n d o => by cases o <;> rfl
  unfold Mi.cut
  rw [e, e]
theorem pr_cut {R : V → α → Prop} {vs : List V} {xs : List α} (r : Paired R vs xs) (lo hi : Option Int) : Paired R (cutV vs lo hi) (Mi.cut xs lo hi) := by
  rw [← cut_eq]
  unfold cutV
  rw [pr_len r]
  exact pr_take _ (pr_drop _ r)
theorem w_cutL {xs : List α} {lo hi : Option Int} (r : (yLst τ).rep K H F v xs) (k : ∀ p H', H p = none → Chg [] H H' → (yLst τ).rep K H' [p] (.ref p) (Mi.cut xs lo hi) → Q (.ref p) H') : rSlL K v lo hi H Q := by
  obtain ⟨p, vs, rfl, s, q⟩ := lst_sq r
  refine ⟨p, vs, rfl, s, fun n nn => k n _ nn (Chg.new nn) ⟨n, _, rfl, rfl, upd_same, ?_⟩⟩
  exact Paired.mapP (pr_cut q lo hi) fun _ _ z => Ty.ex z (Chg.new nn)
def rListQ (K : PySem.W.Frag) : List V → Hp → VK → Prop := fun xs H Q => ∃ p ys, xs = [.ref p] ∧ (SqL K H p ys ∨ SqT K H p ys) ∧ ∀ l, H l = none → Q (.ref l) (upd H l (.lst ys))
def rTupleQ (K : PySem.W.Frag) : List V → Hp → VK → Prop := fun xs H Q => ∃ p ys, xs = [.ref p] ∧ ((SqL K H p ys ∧ ∀ l, H l = none → Q (.ref l) (upd H l (.tup ys))) ∨ (SqT K H p ys ∧ Q (.ref p) H))
theorem cl_list {X : Cx} {K : PySem.W.Frag} (e : X.K = K := by rfl) : CallR X (.type "list") (rListQ K) := by subst e; exact call_list_of
theorem cl_tuple {X : Cx} {K : PySem.W.Frag} (e : X.K = K := by rfl) : CallR X (.type "tuple") (rTupleQ K) := by subst e; exact call_tuple_of
theorem w_listL {xs : List α} (r : (yLst τ).rep K H F v xs) (k : ∀ p H', H p = none → Chg [] H H' → (yLst τ).rep K H' [p] (.ref p) xs → Q (.ref p) H') : rListQ K [v] H Q := by
  obtain ⟨p, vs, rfl, s, q⟩ := lst_sq r
  exact ⟨p, vs, rfl, .inl s, fun n nn => k n _ nn (Chg.new nn) ⟨n, _, rfl, rfl, upd_same, Paired.mapP q fun _ _ z => Ty.ex z (Chg.new nn)⟩⟩
theorem w_listT {xs : List α} (r : (yTupL τ).rep K H F v xs) (k : ∀ p H', H p = none → Chg [] H H' → (yLst τ).rep K H' [p] (.ref p) xs → Q (.ref p) H') : rListQ K [v] H Q := by
  obtain ⟨p, vs, rfl, s, q⟩ := tupl_sq r
  exact ⟨p, vs, rfl, .inr s, fun n nn => k n _ nn (Chg.new nn) ⟨n, _, rfl, rfl, upd_same, Paired.mapP q fun _ _ z => Ty.ex z (Chg.new nn)⟩⟩
theorem w_tupleL {xs : List α} (r : (yLst τ).rep K H F v xs) (k : ∀ v H', Chg [] H H' → (yTupL τ).rep K H' [] v xs → Q v H') : rTupleQ K [v] H Q := by
  obtain ⟨p, vs, rfl, s, q⟩ := lst_sq r
  exact ⟨p, vs, rfl, .inl ⟨s, fun n nn => k _ _ (Chg.new nn) ⟨n, _, rfl, rfl, .inl (.inl upd_same), Paired.mapP q fun _ _ z => Ty.ex z (Chg.new nn)⟩⟩⟩
theorem w_tupleT {xs : List α} (r : (yTupL τ).rep K H F v xs) (k : ∀ v H', Chg [] H H' → (yTupL τ).rep K H' [] v xs → Q v H') : rTupleQ K [v] H Q := by
  obtain ⟨p, vs, rfl, s, q⟩ := tupl_sq r
  exact ⟨p, vs, rfl, .inr ⟨s, k _ _ (Chg.refl H) ⟨p, vs, rfl, rfl, s, q⟩⟩⟩
/-! ### in -/
theorem op_in_q {X : Cx} {K : PySem.W.Frag} (e : X.K = K := by rfl) : OpR X (compareOp .In) (rIn K false) := by subst e; exact op_in_seq
theorem op_ni_q {X : Cx} {K : PySem.W.Frag} (e : X.K = K := by rfl) : OpR X (compareOp .NotIn) (rIn K true) := by subst e; exact op_notIn_seq
theorem flat_ints (ns : List Int) : (ns.map V.int).all flatV = true := by
  rw [List.all_eq_true]
  intro x hx
  obtain ⟨n, _, rfl⟩ := List.mem_map.mp hx
  rfl
theorem in_ints (n : Int) : ∀ ns : List Int, inV (.int n) (ns.map V.int) = ns.contains n
  | [] => rfl
  | m :: ns => by
    have ih := in_ints n ns
    unfold inV at ih ⊢
    rw [List.map_cons, List.any_cons, List.contains_cons, ih]
    congr 1
    show (m == n) = (n == m)
    by_cases h : m = n
    · subst h; rfl
    · rw [beq_eq_false_iff_ne.mpr h, beq_eq_false_iff_ne.mpr (Ne.symm h)]
theorem ints_sqL {xs : List Int} (r : (yLst yInt).rep K H F v xs) : ∃ a, v = .ref a ∧ SqL K H a (xs.map V.int) := by
  obtain ⟨a, vs, e, s, q⟩ := lst_sq r
  rw [ints_of q] at s
  exact ⟨a, e, s⟩
theorem ints_sqT {xs : List Int} (r : (yTupL yInt).rep K H F v xs) : ∃ a, v = .ref a ∧ SqT K H a (xs.map V.int) := by
  obtain ⟨a, vs, e, s, q⟩ := tupl_sq r
  rw [ints_of q] at s
  exact ⟨a, e, s⟩
theorem w_inL {xs : List Int} (r : (yLst yInt).rep K H F v xs) (k : Q (.bl (xs.contains i)) H) : rIn K false (.int i) v H Q := by
  obtain ⟨a, rfl, s⟩ := ints_sqL r
  exact ⟨a, _, rfl, .inl s, rfl, flat_ints xs, by rw [if_neg Bool.false_ne_true, in_ints]; exact k⟩
theorem w_niL {xs : List Int} (r : (yLst yInt).rep K H F v xs) (k : Q (.bl (!xs.contains i)) H) : rIn K true (.int i) v H Q := by
  obtain ⟨a, rfl, s⟩ := ints_sqL r
  exact ⟨a, _, rfl, .inl s, rfl, flat_ints xs, by rw [if_pos rfl, in_ints]; exact k⟩
theorem w_inT {xs : List Int} (r : (yTupL yInt).rep K H F v xs) (k : Q (.bl (xs.contains i)) H) : rIn K false (.int i) v H Q := by
  obtain ⟨a, rfl, s⟩ := ints_sqT r
  exact ⟨a, _, rfl, .inr s, rfl, flat_ints xs, by rw [if_neg Bool.false_ne_true, in_ints]; exact k⟩
theorem w_niT {xs : List Int} (r : (yTupL yInt).rep K H F v xs) (k : Q (.bl (!xs.contains i)) H) : rIn K true (.int i) v H Q := by
  obtain ⟨a, rfl, s⟩ := ints_sqT r
  exact ⟨a, _, rfl, .inr s, rfl, flat_ints xs, by rw [if_pos rfl, in_ints]; exact k⟩
theorem val_inL {xs : List Int} (r : (yLst yInt).rep K H F v xs) (ha : Val ta σ H (.int i)) (hb : Val tb σ H v) : Val (tOp (rIn K false) ta tb) σ H (.bl (xs.contains i)) := val_op ha hb fun Q q => w_inL r q
theorem val_niL {xs : List Int} (r : (yLst yInt).rep K H F v xs) (ha : Val ta σ H (.int i)) (hb : Val tb σ H v) : Val (tOp (rIn K true) ta tb) σ H (.bl (!xs.contains i)) := val_op ha hb fun Q q => w_niL r q
theorem val_inT {xs : List Int} (r : (yTupL yInt).rep K H F v xs) (ha : Val ta σ H (.int i)) (hb : Val tb σ H v) : Val (tOp (rIn K false) ta tb) σ H (.bl (xs.contains i)) := val_op ha hb fun Q q => w_inT r q
theorem val_niT {xs : List Int} (r : (yTupL yInt).rep K H F v xs) (ha : Val ta σ H (.int i)) (hb : Val tb σ H v) : Val (tOp (rIn K true) ta tb) σ H (.bl (!xs.contains i)) := val_op ha hb fun Q q => w_niT r q
end
end G

namespace G
open PySem PySem.Spec PyProof.Rows L2
/-! ### instances -/
theorem lookup_zip {f : Str} : ∀ {ns : List Str} {vs : List V} {n : Nat} {u : V}, ns.Nodup → ns[n]? = some f → vs[n]? = some u → (ns.zip vs).lookup f = some u
  | [], _, _, _, _, h, _ => by simp at h
  | _ :: _, [], _, _, _, _, h => by simp at h
  | m :: ns, w :: vs, 0, u, nd, h, h2 => by
    obtain rfl : m = f := by simpa using h
    obtain rfl : w = u := by simpa using h2
    simp [List.lookup]
  | m :: ns, w :: vs, n + 1, u, nd, h, h2 => by
    have hne : (f == m) = false := by
      rw [beq_eq_false_iff_ne]
      intro e
      subst e
      have h3 : ns[n]? = some f := by simpa using h
      exact (List.nodup_cons.mp nd).1 (List.mem_of_getElem? h3)
    rw [List.zip_cons_cons]
    simp only [List.lookup, hne]
    exact lookup_zip (List.nodup_cons.mp nd).2 (by simpa using h) (by simpa using h2)
def yObj {α : Type} (C : Addr) (ns : List Str) (ts : Tys α) : Ty α where
  rep K H F v d := F = [] ∧ ∃ a dx vs, v = .ref a ∧ H a = some (.ins C dx (ns.zip vs)) ∧ done (ns.zip vs) = true ∧ ts.rep K H [] vs d
  keep {K H H' F v d} h k := by
    obtain ⟨e, a, dx, vs, e2, g, f, r⟩ := h
    exact ⟨e, a, dx, vs, e2, k a _ g (.inr f), f, ts.keep r fun b o hb z => k b o hb (z.elim (fun y => nomatch y) .inr)⟩
  dom {K H F v d} h b m := by rw [h.1] at m; cases m
/-- an instance that its __init__ has begun: the attributes ns hold the values ws -/
def yPart (C dx : Addr) (ns : List Str) : Ty (List V) where
  rep K H F v ws := ∃ x, v = .ref x ∧ F = [x] ∧ H x = some (.ins C dx (ns.zip ws)) ∧ done (ns.zip ws) = false
  keep {K H H' F v ws} h k := by
    obtain ⟨x, e, rfl, g, f⟩ := h
    exact ⟨x, e, rfl, k x _ g (.inl (List.mem_singleton.mpr rfl)), f⟩
  dom {K H F v ws} h b m := by
    obtain ⟨x, e, rfl, g, f⟩ := h
    rw [List.mem_singleton] at m; subst m
    exact ⟨_, g, fun z => by have z' : done _ = true := z; rw [f] at z'; cases z'⟩
section
variable {K : PySem.W.Frag} {σ σ' : L2.St} {H : Hp} {F : List Addr} {ta tb te tv : TE} {v u x y w : V} {α β : Type} {τ : Ty α} {Q : VK} {D : Ends} {t1 t2 : TS} {C dx p : Addr} {ns : List Str} {f : Str}
theorem fz_obj {ts : Tys α} : Fz (yObj C ns ts) := fun h => h.1
theorem nn_obj {ts : Tys α} {d : α} (r : (yObj C ns ts).rep K H F v d) : v ≠ .non := by obtain ⟨_, a, _, _, rfl, _⟩ := r; exact fun z => nomatch z
/-- o.f: what is asked of the value o -/
def FldG (K : PySem.W.Frag) (f : Str) (x : V) (H : Hp) (Q : VK) : Prop := ∃ a C dx fs v, x = .ref a ∧ H a = some (.ins C dx fs) ∧ Cls K C ∧ NoAttr K C f ∧ fs.lookup f = some v ∧ Q v H
theorem w_fld (h : ta σ H fun x H1 => FldG K f x H1 Q) : tFld K ta f σ H Q := h
theorem fld_obj {ts : Tys α} {n : Nat} {υ : Ty β} {pr : α → β} {d : α} (A : At ts n υ pr) (nd : ns.Nodup) (hn : ns[n]? = some f) (c : Cls K C) (na : NoAttr K C f) (r : (yObj C ns ts).rep K H F v d) :
    ∃ u, υ.rep K H [] u (pr d) ∧ (∀ {Q : VK}, Q u H → FldG K f v H Q) ∧ ∀ {σ : L2.St} {ta : TE}, Val ta σ H v → Val (tFld K ta f) σ H u := by
  obtain ⟨_, a, dx, vs, rfl, g, _, rs⟩ := r
  obtain ⟨u, F1, e, ru, sub⟩ := A rs
  have e1 : F1 = [] := by
    cases F1 with
    | nil => rfl
    | cons z zs => exact nomatch sub z (List.mem_cons_self ..)
  subst e1
  have k : ∀ {Q : VK}, Q u H → FldG K f (.ref a) H Q := fun q => ⟨a, C, dx, _, u, rfl, g, c, na, lookup_zip nd hn e, q⟩
  exact ⟨u, ru, k, fun ha Q q => ha _ (k q)⟩
theorem fld_part {ws : List V} {n : Nat} (nd : ns.Nodup) (hn : ns[n]? = some f) (hw : ws[n]? = some u) (c : Cls K C) (na : NoAttr K C f) (r : (yPart C dx ns).rep K H F v ws) (ha : Val ta σ H v) : Val (tFld K ta f) σ H u := by
  obtain ⟨a, rfl, _, g, _⟩ := r
  exact fun Q q => ha _ ⟨a, C, dx, _, u, rfl, g, c, na, lookup_zip nd hn hw, q⟩
/-- self.f = e -/
def SFldG (K : PySem.W.Frag) (f : Str) (y x : V) (H : Hp) (X : Hp → Prop) : Prop := ∃ a C dx fs, x = .ref a ∧ H a = some (.ins C dx fs) ∧ Cls K C ∧ NoAttr K C f ∧ fs.length < 1000 ∧ X (upd H a (.ins C dx (putF f y fs)))
theorem q_fld (h : tv σ H fun y H1 => ta σ H1 fun x H2 => SFldG K f y x H2 (t2 D σ)) : tSeq (sFld K ta tv f) t2 D σ H := h
theorem putF_zip {f : Str} {y : V} : ∀ {ns : List Str} {ws : List V}, f ∉ ns → ns.length = ws.length → putF f y (ns.zip ws) = (ns ++ [f]).zip (ws ++ [y])
  | [], [], _, _ => rfl
  | [], _ :: _, _, h => by simp at h
  | _ :: _, [], _, h => by simp at h
  | m :: ns, w :: ws, hf, h => by
    have hne : f ≠ m := fun e => hf (by rw [e]; exact List.mem_cons_self ..)
    have ih := putF_zip (f := f) (y := y) (ns := ns) (ws := ws) (fun z => hf (List.mem_cons_of_mem _ z)) (by simpa using h)
    rw [List.zip_cons_cons]
    show putF f y ((m, w) :: ns.zip ws) = _
    unfold putF
    split
    · rename_i e
      exact absurd (by simpa using e) (by first | exact hne | exact (Ne.symm hne))
    · rw [ih]; rfl
theorem m_fldP {ws : List V} {X : Hp → Prop} (r : (yPart C dx ns).rep K H F v ws) (c : Cls K C) (na : NoAttr K C f) (hf : f ∉ ns) (hl : ns.length = ws.length) (hs : ns.length < 900) (hd : done ((ns ++ [f]).zip (ws ++ [y])) = false)
    (k : ∀ H', Chg F H H' → (yPart C dx (ns ++ [f])).rep K H' F v (ws ++ [y]) → X H') : SFldG K f y v H X := by
  obtain ⟨a, rfl, rfl, g, nf⟩ := r
  have cc : Chg [a] H (upd H a (.ins C dx (putF f y (ns.zip ws)))) := Chg.wr g (fun z => by have z' : done _ = true := z; rw [nf] at z'; cases z')
  refine ⟨a, C, dx, _, rfl, g, c, na, by rw [List.length_zip, ← hl]; omega, k _ cc ⟨a, rfl, rfl, ?_, hd⟩⟩
  rw [upd_same, putF_zip hf hl]
theorem m_fldE {ws : List V} {X : Hp → Prop} {ts : Tys α} {d : α} (r : (yPart C dx ns).rep K H F v ws) (c : Cls K C) (na : NoAttr K C f) (hf : f ∉ ns) (hl : ns.length = ws.length) (hs : ns.length < 900) (hd : done ((ns ++ [f]).zip (ws ++ [y])) = true)
    (rs : ts.rep K H [] (ws ++ [y]) d) (k : ∀ H', Chg F H H' → (yObj C (ns ++ [f]) ts).rep K H' [] v d → X H') : SFldG K f y v H X := by
  obtain ⟨a, rfl, rfl, g, nf⟩ := r
  have cc : Chg [a] H (upd H a (.ins C dx (putF f y (ns.zip ws)))) := Chg.wr g (fun z => by have z' : done _ = true := z; rw [nf] at z'; cases z')
  refine ⟨a, C, dx, _, rfl, g, c, na, by rw [List.length_zip, ← hl]; omega, k _ cc ⟨rfl, a, dx, _, rfl, ?_, hd, ts.keep rs fun b o hb z => cc.keep b o hb (z.elim (fun y => nomatch y) .inr)⟩⟩
  rw [upd_same, putF_zip hf hl]
/-- C(..): the new instance -/
def MakeG (C : Addr) (sp : Sp) (E : XK) (vs : V → List V) (H : Hp) (Q : VK) : Prop := ∀ x dx, H x = none → H dx = none → dx ≠ x → sp (vs (.ref x)) (upd (upd H dx (.own x)) x (.ins C dx [])) (fun v H3 => v = .non ∧ Q (.ref x) H3) E
theorem make_new {x : Addr} (nx : H x = none) (nd : H dx = none) (ne : dx ≠ x) : Chg [] H (upd (upd H dx (.own x)) x (.ins C dx [])) ∧ (yPart C dx []).rep K (upd (upd H dx (.own x)) x (.ins C dx [])) [x] (.ref x) [] :=
  ⟨(Chg.new nd).trans (Chg.new (by rw [upd_ne (Ne.symm ne)]; exact nx)), x, rfl, rfl, upd_same, rfl⟩
theorem tInt_tup {d : Int} : True := trivial
end
end G
namespace G
open PySem PySem.Spec PyProof.Rows L2
/-- what the top leaves of a class -/
structure Tx (K : PySem.W.Frag) (mg : Str → Option Value) (C : Addr) (x : Str) (ns : List Str) : Prop where
  cls : Cls K C
  mgC : mg x = some (.ref C)
  na : ∀ f ∈ ns, NoAttr K C f
structure CalM (P : Program) (w : World) (K : PySem.W.Frag) (mg : Str → Option Value) (C : Addr) (m : Str) (ps : List Str) (k : Nat) (sp : Sp) : Prop where
  ex : ∃ f fd, Meth K C m f ∧ (∀ (s : Shared) (us : List Value), us.length = ps.length → BindsTo s fd ⟨us, []⟩ (ps.zip us)) ∧ ∀ base : Heap, FnOk P w K mg base CX0 k f fd ps sp
structure CalI (P : Program) (w : World) (K : PySem.W.Frag) (mg : Str → Option Value) (C : Addr) (qual : Str) (st : Stmt) (kws : List (Str × V)) (ps : List Str) (k : Nat) (sp : Sp) : Prop where
  ex : ∃ f fd, Mk K C f ∧ FunD K "__init__" qual (defArgs st) (defBody st) (defScope st) [] kws f fd ∧ ∀ base : Heap, FnOk P w K mg base CX0 k f fd ps sp
structure DfnM (K : PySem.W.Frag) (C : Addr) (m qual : Str) (st : Stmt) : Prop where
  ex : ∃ f fd, Fun K m qual st f fd ∧ Meth K C m f
structure DfnI (K : PySem.W.Frag) (C : Addr) (qual : Str) (st : Stmt) (kws : List (Str × V)) : Prop where
  ex : ∃ f fd, FunD K "__init__" qual (defArgs st) (defBody st) (defScope st) [] kws f fd ∧ Mk K C f
section
variable {X : Cx} {K : PySem.W.Frag} {σ : L2.St} {H : Hp} {F : List Addr} {ta te : TE} {v : V} {α : Type} {Q : VK} {C : Addr} {ns : List Str} {m : Str}
def MethG (C : Addr) (m : Str) (x : V) (H : Hp) (R : Prop) : Prop := ∃ a dx fs, x = .ref a ∧ H a = some (.ins C dx fs) ∧ fs.lookup m = none ∧ R
theorem w_meth {sp : Sp} {E : XK} {ts : TA} (h : ta σ H fun x H1 => MethG C m x H1 (ts σ H1 fun vs H2 => sp (x :: (vs ++ [])) H2 Q E)) : tMeth C m sp [] E ta ts σ H Q := h
theorem lookup_none {f : Str} : ∀ {ns : List Str} {vs : List V}, f ∉ ns → (ns.zip vs).lookup f = none
  | [], _, _ => rfl
  | _ :: _, [], _ => rfl
  | m :: ns, w :: vs, h => by
    have hne : (f == m) = false := by
      rw [beq_eq_false_iff_ne]
      exact fun e => h (by rw [e]; exact List.mem_cons_self ..)
    rw [List.zip_cons_cons]
    simp only [List.lookup, hne]
    exact lookup_none fun z => h (List.mem_cons_of_mem _ z)
theorem meth_obj {ts : Tys α} {d : α} {R : Prop} (r : (yObj C ns ts).rep K H F v d) (hm : m ∉ ns) (k : R) : MethG C m v H R := by
  obtain ⟨_, a, dx, vs, rfl, g, _, _⟩ := r
  exact ⟨a, dx, _, rfl, g, lookup_none hm, k⟩
theorem w_makeK {n k : Nat} {sp : Sp} {gV : List V → List V → List V} {E : XK} {t tk : TA} (h : t σ H fun vs H1 => tk σ H1 fun zs H2 => vs.length = n ∧ zs.length = k ∧ MakeG C sp E (fun x => gV (x :: vs) zs) H2 Q) : tMakeK C n k sp gV E t tk σ H Q := h
theorem w_mk {sp : Sp} {E : XK} {t : TA} {dvs : List V} (h : t σ H fun vs H1 => MakeG C sp E (fun x => x :: (vs ++ dvs)) H1 Q) : tMake C sp dvs E t σ H Q := h
theorem pe_cm {ps : List Str} {j k : Nat} {sp : Sp} {pl : Sem Bool} {apos pos : Pos} {o e : Expr} {es : List Expr} {t : TA} (he : PE X o ta) (c : Cls X.K C) (M : CalM X.prog X.w X.K X.mg C m ps j sp) (hr : Room k X.A) (ha : PA X (e :: es) t) (hj : j ≤ k := by decide)
    (h1 : ∀ {f : Addr} {fd : FuncData}, FnOk X.prog X.w X.K X.mg X.base CX0 j f fd ps sp → Meth X.K C m f → Binds X.K fd ps [] → Room j X.A → PE X (.Call (.Attribute o m apos) (e :: es) [] pos) (tMeth C m sp [] E0 ta t)) : PE X (.Call (.Attribute o m apos) (e :: es) [] pos) (tMeth C m sp [] E0 ta t) := by
  obtain ⟨f, fd, hm, b, F⟩ := M.ex
  exact h1 (F X.base) hm (fun s us _ hl => by rw [List.append_nil] at hl ⊢; exact b s us hl) (hr.mono hj)
end
end G

namespace G
open PySem PySem.Spec PyProof.Rows L2
section
variable {K : PySem.W.Frag} {σ σ' : L2.St} {H : Hp} {F F1 F2 Fu : List Addr} {ta tb te : TE} {v u x y : V} {i j : Int} {t tu tt : TT} {b c a : Bool} {α β : Type} {τ : Ty α} {υ : Ty β} {Q : VK} {D : Ends} {t1 t2 : TS} {g : TG} {ws : List Nat}
/-! ### shifts -/
theorem shlC {i j r : Int} (h : Mi.shl i j = some r) : CPow i j ∧ i * 2 ^ j.toNat = r := by
  unfold Mi.shl at h
  split at h
  · rename_i hc
    exact ⟨⟨hc.1, by omega, by omega⟩, Option.some.inj h⟩
  · cases h
theorem shrC {i j r : Int} (h : Mi.shr i j = some r) : 0 ≤ j ∧ i / 2 ^ j.toNat = r := by
  unfold Mi.shr at h
  split at h
  · exact ⟨by assumption, Option.some.inj h⟩
  · cases h
theorem val_shlO {r : Int} (ha : Val ta σ H (.int i)) (hb : Val tb σ H (.int j)) (h : Mi.shl i j = some r) : Val (tOp (rI CPow fun i j => .int (i * 2 ^ j.toNat)) ta tb) σ H (.int r) := val_is (val_I (g := fun i j => .int (i * 2 ^ j.toNat)) ha hb (shlC h).1) (by rw [← (shlC h).2])
theorem val_shrO {r : Int} (ha : Val ta σ H (.int i)) (hb : Val tb σ H (.int j)) (h : Mi.shr i j = some r) : Val (tOp (rI (fun _ j => 0 ≤ j) fun i j => .int (i / 2 ^ j.toNat)) ta tb) σ H (.int r) := val_is (val_I (g := fun i j => .int (i / 2 ^ j.toNat)) ha hb (shrC h).1) (by rw [← (shrC h).2])
theorem w_shl {r : Int} (h : Mi.shl i j = some r) (k : Q (.int r) H) : rI CPow (fun i j => .int (i * 2 ^ j.toNat)) (.int i) (.int j) H Q := ⟨i, j, rfl, rfl, (shlC h).1, by show Q (.int (i * 2 ^ j.toNat)) H; rw [(shlC h).2]; exact k⟩
theorem w_shr {r : Int} (h : Mi.shr i j = some r) (k : Q (.int r) H) : rI (fun _ j => 0 ≤ j) (fun i j => .int (i / 2 ^ j.toNat)) (.int i) (.int j) H Q := ⟨i, j, rfl, rfl, (shrC h).1, by show Q (.int (i / 2 ^ j.toNat)) H; rw [(shrC h).2]; exact k⟩
/-! ### sorted -/
theorem cl_sortedL {X : Cx} {K : PySem.W.Frag} (e : X.K = K := by rfl) : CallR X (.builtin "sorted") (rSortedI K) := by subst e; exact cr_sortedI
theorem sortI_perm (xs : List Int) : (Mi.sortI xs).Perm xs := List.mergeSort_perm _ _
theorem sortI_sorted (xs : List Int) : (Mi.sortI xs).Pairwise (· ≤ ·) := by
  have h := List.pairwise_mergeSort (le := fun a b : Int => decide (a ≤ b)) (fun a b c h1 h2 => by simp at *; omega) (fun a b => by simp; omega) xs
  exact List.Pairwise.imp (fun h => by simpa using h) h
theorem sorted_unique : ∀ {xs ys : List Int}, xs.Perm ys → xs.Pairwise (· ≤ ·) → ys.Pairwise (· ≤ ·) → xs = ys
  | [], ys, p, _, _ => (List.Perm.nil_eq p)
  | x :: xs, [], p, _, _ => absurd p.length_eq (by simp)
  | x :: xs, y :: ys, p, h1, h2 => by
    have hx := List.pairwise_cons.mp h1
    have hy := List.pairwise_cons.mp h2
    have e : x = y := by
      have a1 : y ∈ x :: xs := p.mem_iff.mpr (List.mem_cons_self ..)
      have a2 : x ∈ y :: ys := p.mem_iff.mp (List.mem_cons_self ..)
      rcases List.mem_cons.mp a1 with r | r
      · exact r.symm
      · rcases List.mem_cons.mp a2 with q | q
        · exact q
        · have := hx.1 y r
          have := hy.1 x q
          omega
    subst e
    rw [sorted_unique (List.Perm.cons_inv p) hx.2 hy.2]
theorem w_sortedL {xs : List Int} (r : (yLst yInt).rep K H F v xs) (k : ∀ p H', H p = none → Chg [] H H' → (yLst yInt).rep K H' [p] (.ref p) (Mi.sortI xs) → Q (.ref p) H') : rSortedI K [v] H Q := by
  obtain ⟨p, rfl, s⟩ := ints_sqL r
  refine ⟨p, xs, rfl, s, fun ns q pm so nq => ?_⟩
  rw [sorted_unique (pm.trans (sortI_perm xs).symm) so (sortI_sorted xs)]
  exact k q _ nq (Chg.new nq) ⟨q, _, rfl, rfl, upd_same, ints_mk _⟩
/-! ### sets of ints -/
def ySet (w : World) : Ty (List Int) where
  rep K H F v xs := ∃ a, v = .ref a ∧ F = [a] ∧ H a = some (SetO w a (fun i => xs.contains i) xs.length)
  keep {K H H' F v xs} h k := by
    obtain ⟨a, e, rfl, g⟩ := h
    exact ⟨a, e, rfl, k a _ g (.inl (List.mem_singleton.mpr rfl))⟩
  dom {K H F v xs} h b m := by
    obtain ⟨a, e, rfl, g⟩ := h
    rw [List.mem_singleton] at m; subst m
    exact ⟨_, g, fun z => z⟩
theorem cl_set0 {X : Cx} {w : World} (e : X.w = w := by rfl) : CallR X (.type "set") (rSet0 w) := by subst e; exact cr_set0
theorem w_set0 {w : World} (k : ∀ p H', H p = none → Chg [] H H' → (ySet w).rep K H' [p] (.ref p) [] → Q (.ref p) H') : rSet0 w [] H Q := ⟨rfl, fun p np => k p _ np (Chg.new np) ⟨p, rfl, rfl, upd_same⟩⟩
theorem op_in_s {X : Cx} {w : World} (e : X.w = w := by rfl) : OpR X (compareOp .In) (rSIn w) := by subst e; exact or_sin
theorem op_ni_s {X : Cx} {w : World} (e : X.w = w := by rfl) : OpR X (compareOp .NotIn) (rSNotIn w) := by subst e; exact or_snotin
theorem w_inS {w : World} {xs : List Int} (r : (ySet w).rep K H F v xs) (k : Q (.bl (xs.contains i)) H) : rSIn w (.int i) v H Q := by
  obtain ⟨p, rfl, rfl, g⟩ := r
  exact ⟨i, p, _, _, rfl, rfl, g, k⟩
theorem w_niS {w : World} {xs : List Int} (r : (ySet w).rep K H F v xs) (k : Q (.bl (!xs.contains i)) H) : rSNotIn w (.int i) v H Q := by
  obtain ⟨p, rfl, rfl, g⟩ := r
  exact ⟨i, p, _, _, rfl, rfl, g, k⟩
theorem val_inS {w : World} {xs : List Int} (r : (ySet w).rep K H F v xs) (ha : Val ta σ H (.int i)) (hb : Val tb σ H v) : Val (tOp (rSIn w) ta tb) σ H (.bl (xs.contains i)) := val_op ha hb fun Q q => w_inS r q
theorem val_niS {w : World} {xs : List Int} (r : (ySet w).rep K H F v xs) (ha : Val ta σ H (.int i)) (hb : Val tb σ H v) : Val (tOp (rSNotIn w) ta tb) σ H (.bl (!xs.contains i)) := val_op ha hb fun Q q => w_niS r q
theorem w_sadd {w : World} {to : TE} {ts : TA} (h : to σ H fun x H1 => (∃ a S n, x = V.ref a ∧ H1 a = some (SetO w a S n)) ∧ ts σ H1 fun xs H2 => rSAdd w x xs H2 Q) : tSAdd w to ts σ H Q := h
theorem tyv_set {w : World} {xs : List Int} (r : (ySet w).rep K H F v xs) : ∃ a S n, v = V.ref a ∧ H a = some (SetO w a S n) := by
  obtain ⟨p, rfl, rfl, g⟩ := r
  exact ⟨p, _, _, rfl, g⟩
theorem m_sadd {w : World} {xs ys : List Int} (r : (ySet w).rep K H F v xs) (hm : Mi.sadd xs i = some ys) (k : ∀ H', Chg F H H' → (ySet w).rep K H' F v ys → Q .non H') : rSAdd w v [.int i] H Q := by
  obtain ⟨p, rfl, rfl, g⟩ := r
  unfold Mi.sadd at hm
  split at hm
  · rename_i hz
    obtain rfl := Option.some.inj hm
    refine ⟨p, i, _, _, rfl, rfl, g, by show xs.length + 1 < 4096; omega, ?_⟩
    refine k _ (Chg.wr g (fun z => z)) ⟨p, rfl, rfl, ?_⟩
    rw [upd_same]
    congr 1
    by_cases hc : xs.contains i = true
    · have e1 : (fun j => xs.contains j || decide (j = i)) = fun j => xs.contains j := by
        funext j
        by_cases hj : j = i
        · subst hj; rw [hc]; rfl
        · rw [decide_eq_false hj, Bool.or_false]
      rw [if_pos hc, if_pos hc]
      show SetO w p (fun j => xs.contains j || decide (j = i)) _ = _
      rw [e1]
    · rw [if_neg hc, if_neg hc]
      have e1 : (fun j => xs.contains j || decide (j = i)) = fun j => (xs ++ [i]).contains j := by
        funext j
        rw [List.contains_eq_mem, List.contains_eq_mem]
        by_cases hj : j = i
        · subst hj; simp
        · simp [hj]
      show SetO w p (fun j => xs.contains j || decide (j = i)) _ = _
      rw [e1, List.length_append]
      rfl
  · cases hm
/-! ### lists by their methods -/
theorem m_clear {xs : List α} (r : (yLst τ).rep K H F v xs) (k : ∀ H', Chg F H H' → (yLst τ).rep K H' F v [] → Q .non H') : rClear v [] H Q := by
  obtain ⟨p, vs, rfl, rfl, g, q⟩ := r
  exact ⟨p, vs, rfl, rfl, g, k _ (Chg.wr g (fun z => z)) ⟨p, [], rfl, rfl, upd_same, .nil⟩⟩
theorem pr_rev {R : V → α → Prop} : ∀ {vs : List V} {xs : List α}, Paired R vs xs → Paired R vs.reverse xs.reverse
  | _, _, .nil => .nil
  | _, _, .cons r t => by
    rw [List.reverse_cons, List.reverse_cons]
    exact pr_app (pr_rev t) (.cons r .nil)
theorem m_reverse {xs : List α} (r : (yLst τ).rep K H F v xs) (k : ∀ H', Chg F H H' → (yLst τ).rep K H' F v xs.reverse → Q .non H') : rReverse v [] H Q := by
  obtain ⟨p, vs, rfl, rfl, g, q⟩ := r
  have c : Chg [p] H (upd H p (.lst vs.reverse)) := Chg.wr g (fun z => z)
  exact ⟨p, vs, rfl, rfl, g, k _ c ⟨p, _, rfl, rfl, upd_same, Paired.mapP (pr_rev q) fun _ _ z => Ty.fz z c⟩⟩
theorem pr_dropLast {R : V → α → Prop} {vs : List V} {xs : List α} (r : Paired R vs xs) : Paired R vs.dropLast xs.dropLast := by
  rw [List.dropLast_eq_take, List.dropLast_eq_take, pr_len r]
  exact pr_take _ r
theorem pr_erase {R : V → α → Prop} {vs : List V} {xs : List α} (r : Paired R vs xs) (n : Nat) : Paired R (vs.eraseIdx n) (xs.eraseIdx n) := by
  rw [List.eraseIdx_eq_take_drop_succ, List.eraseIdx_eq_take_drop_succ]
  exact pr_app (pr_take _ r) (pr_drop _ r)
theorem m_pop {xs : List α} {p : α × List α} (r : (yLst τ).rep K H F v xs) (hm : Mi.popL xs = some p) (k : ∀ u H', Chg F H H' → τ.rep K H' [] u p.1 → (yLst τ).rep K H' F v p.2 → Q u H') : rPop v [] H Q := by
  obtain ⟨l, vs, rfl, rfl, g, q⟩ := r
  unfold Mi.popL at hm
  obtain ⟨y, hy, hm⟩ := Mi.bnd hm
  obtain rfl := Option.some.inj hm
  obtain ⟨u, hu, ru⟩ := pr_get q hy
  have c : Chg [l] H (upd H l (.lst vs.dropLast)) := Chg.wr g (fun z => z)
  exact ⟨l, vs, u, rfl, rfl, g, by rw [pr_len q]; exact hu, k u _ c (Ty.fz ru c) ⟨l, _, rfl, rfl, upd_same, Paired.mapP (pr_dropLast q) fun _ _ z => Ty.fz z c⟩⟩
theorem m_popAt {xs : List α} {p : α × List α} (r : (yLst τ).rep K H F v xs) (hm : Mi.popAt xs i = some p) (hb : xs.length ≤ Mi.big) (k : ∀ u H', Chg F H H' → τ.rep K H' [] u p.1 → (yLst τ).rep K H' F v p.2 → Q u H') : rPopAt v [.int i] H Q := by
  obtain ⟨l, vs, rfl, rfl, g, q⟩ := r
  unfold Mi.popAt at hm
  obtain ⟨j, hj, hm⟩ := Mi.bnd hm
  obtain ⟨y, hy, hm⟩ := Mi.bnd hm
  obtain rfl := Option.some.inj hm
  obtain ⟨u, hu, ru⟩ := pr_get q hy
  have c : Chg [l] H (upd H l (.lst (vs.eraseIdx j))) := Chg.wr g (fun z => z)
  obtain ⟨h1, h2, h3, h4⟩ := ixN_seq (show L2.ixN vs.length i = some j by rw [pr_len q]; exact hj)
  have hb2 : vs.length ≤ 1000000 := by rw [pr_len q]; exact hb
  exact ⟨l, vs, i, j, u, rfl, rfl, g, by omega, by omega, h1, hu, k u _ c (Ty.fz ru c) ⟨l, _, rfl, rfl, upd_same, Paired.mapP (pr_erase q j) fun _ _ z => Ty.fz z c⟩⟩
end
end G

namespace G
open PySem PySem.Spec PyProof.Rows L2
/-! ### a list whose items may hold lists -/
def Sub (F G : List Addr) : Prop := ∀ b ∈ F, b ∈ G
def yLsg {α : Type} (τ : Ty α) : Ty (List α) where
  rep K H F v xs := ∃ a vs G, v = .ref a ∧ F = a :: G ∧ a ∉ G ∧ H a = some (.lst vs) ∧ (∀ b ∈ G, ∃ o, H b = some o ∧ ¬ Froz o) ∧ Paired (fun u x => ∃ Fi, τ.rep K H Fi u x ∧ Sub Fi G) vs xs
  keep {K H H' F v xs} h k := by
    obtain ⟨a, vs, G, e, rfl, na, g, dm, r⟩ := h
    refine ⟨a, vs, G, e, rfl, na, k a _ g (.inl (List.mem_cons_self ..)), fun b hb => ?_, Paired.mapP r fun u x q => ?_⟩
    · obtain ⟨o, ho, hf⟩ := dm b hb
      exact ⟨o, k b o ho (.inl (List.mem_cons_of_mem _ hb)), hf⟩
    · obtain ⟨Fi, ru, sb⟩ := q
      exact ⟨Fi, τ.keep ru fun b o hb z => k b o hb (z.imp (fun y => List.mem_cons_of_mem _ (sb b y)) id), sb⟩
  dom {K H F v xs} h b m := by
    obtain ⟨a, vs, G, e, rfl, na, g, dm, r⟩ := h
    rcases List.mem_cons.mp m with rfl | m
    · exact ⟨_, g, fun z => z⟩
    · exact dm b m
section
variable {K : PySem.W.Frag} {σ σ' : L2.St} {H : Hp} {F F1 F2 Fu : List Addr} {ta tb te : TE} {v u x y : V} {i j : Int} {t tu tt : TT} {b c a : Bool} {α β : Type} {τ : Ty α} {υ : Ty β} {Q : VK} {D : Ends} {t1 t2 : TS} {g : TG} {ws : List Nat}
theorem lsg_sq {xs : List α} (r : (yLsg τ).rep K H F v xs) : ∃ a vs, v = .ref a ∧ a ∈ F ∧ SqL K H a vs ∧ Paired (fun u x => ∃ Fi, τ.rep K H Fi u x ∧ Sub Fi F ∧ a ∉ Fi) vs xs := by
  obtain ⟨a, vs, G, e, rfl, na, g, dm, q⟩ := r
  exact ⟨a, vs, e, List.mem_cons_self .., .inl (.inl g), Paired.mapP q fun u x z => by
    obtain ⟨Fi, ru, sb⟩ := z
    exact ⟨Fi, ru, fun b hb => List.mem_cons_of_mem _ (sb b hb), fun hb => na (sb a hb)⟩⟩
theorem nn_lsg {xs : List α} (r : (yLsg τ).rep K H F v xs) : v ≠ .non := by obtain ⟨a, vs, G, rfl, _⟩ := r; exact fun z => nomatch z
theorem ty_lsg {xs : List α} (r : (yLsg τ).rep K H F v xs) : TyX K H v (.type "list") := by
  obtain ⟨a, vs, G, rfl, _, _, g, _⟩ := r
  exact .base (.lst g)
theorem tyv_lsg {xs : List α} (r : (yLsg τ).rep K H F v xs) : tyV K "list" v H := by
  obtain ⟨a, vs, rfl, _, s, q⟩ := lsg_sq r
  exact .inl ⟨rfl, _, s⟩
theorem val_lenG {xs : List α} (r : (yLsg τ).rep K H F v xs) (ha : Val ta σ H v) : Val (tCB (rLenQ K) (tCons ta tNil)) σ H (.int (xs.length : Int)) := by
  obtain ⟨a, vs, e, _, s, q⟩ := lsg_sq r
  subst e
  exact fun Q k => ha _ ⟨a, vs, rfl, .inl s, by rw [pr_len q]; exact k⟩
theorem w_lenG {xs : List α} (r : (yLsg τ).rep K H F v xs) (k : Q (.int (xs.length : Int)) H) : rLenQ K [v] H Q := by
  obtain ⟨a, vs, e, _, s, q⟩ := lsg_sq r
  subst e
  exact ⟨a, vs, rfl, .inl s, by rw [pr_len q]; exact k⟩
/-- the item's own value -/
theorem itm_G {xs : List α} {x : α} (r : (yLsg τ).rep K H F v xs) (h : Mi.at_ xs i = some x) :
    ∃ u Fi, τ.rep K H Fi u x ∧ Sub Fi F ∧ (∀ p, v = .ref p → p ∉ Fi) ∧ (∀ {Q : VK}, Q u H → rIxL K v (.int i) H Q) ∧ ∀ {σ : L2.St} {ta tb : TE}, Val ta σ H v → Val tb σ H (.int i) → Val (tOp (rIxL K) ta tb) σ H u := by
  obtain ⟨a, vs, e, _, s, q⟩ := lsg_sq r
  subst e
  obtain ⟨u, e, Fi, ru, sb, na⟩ := pr_at q h
  have k : ∀ {Q : VK}, Q u H → rIxL K (.ref a) (.int i) H Q := fun k => ⟨a, vs, i, u, rfl, rfl, s, e, k⟩
  exact ⟨u, Fi, ru, sb, fun p hp => by obtain rfl := V.ref.inj hp; exact na, k, fun ha hb => val_op ha hb fun Q q => k q⟩
/-- a new list of such items -/
theorem e_lsg {vs : List V} {xs : List α} {G : List Addr} (z : vs.length ≤ Mi.big) (dm : ∀ b ∈ G, ∃ o, H b = some o ∧ ¬ Froz o) (r : Paired (fun u x => ∃ Fi, τ.rep K H Fi u x ∧ Sub Fi G) vs xs)
    (k : ∀ p H', H p = none → Chg [] H H' → (yLsg τ).rep K H' (p :: G) (.ref p) xs → Q (.ref p) H') : LstG vs H Q := by
  refine ⟨sz z, fun p np => k p _ np (Chg.new np) ⟨p, vs, G, rfl, rfl, fun hp => ?_, upd_same, fun b hb => ?_, Paired.mapP r fun u x q => ?_⟩⟩
  · obtain ⟨o, ho, _⟩ := dm p hp
    rw [np] at ho; cases ho
  · obtain ⟨o, ho, hf⟩ := dm b hb
    exact ⟨o, by rw [upd_ne (ne_of_none ho np)]; exact ho, hf⟩
  · obtain ⟨Fi, ru, sb⟩ := q
    exact ⟨Fi, Ty.ex ru (Chg.new np), sb⟩
theorem Ty.dm {d : α} (r : τ.rep K H F v d) : ∀ b ∈ F, ∃ o, H b = some o ∧ ¬ Froz o := τ.dom r
theorem dm_nil : ∀ b ∈ ([] : List Addr), ∃ o, H b = some o ∧ ¬ Froz o := fun b h => nomatch h
theorem dm_app (d1 : ∀ b ∈ F1, ∃ o, H b = some o ∧ ¬ Froz o) (d2 : ∀ b ∈ F2, ∃ o, H b = some o ∧ ¬ Froz o) : ∀ b ∈ F1 ++ F2, ∃ o, H b = some o ∧ ¬ Froz o := fun b h => (List.mem_append.mp h).elim (d1 b) (d2 b)
/-- xs.append(e) -/
theorem m_appG {xs ys : List α} {d : α} (r : (yLsg τ).rep K H F v xs) (ru : τ.rep K H Fu u d) (ap : ∀ p, v = .ref p → p ∉ Fu) (hm : Mi.app xs d = some ys)
    (k : ∀ H' F', Chg F H H' → (yLsg τ).rep K H' F' v ys → Sub F F' → Sub F' (F ++ Fu) → Q .non H') : rAppend v [u] H Q := by
  obtain ⟨p, vs, G, rfl, rfl, na, g, dm, q⟩ := r
  have np : p ∉ Fu := ap p rfl
  unfold Mi.app at hm
  split at hm
  · rename_i hz
    cases hm
    have c : Chg [p] H (upd H p (.lst (vs ++ [u]))) := Chg.wr g (fun z => z)
    have kp : ∀ {γ : Type} {ρ : Ty γ} {Fi : List Addr} {w : V} {e : γ}, ρ.rep K H Fi w e → p ∉ Fi → ρ.rep K (upd H p (.lst (vs ++ [u]))) Fi w e := fun rr hn => Ty.chg rr c fun b hb z => by
      rw [List.mem_singleton] at z; subst z; exact hn hb
    refine ⟨p, vs, u, rfl, rfl, g, Nat.lt_of_lt_of_le (by rw [pr_len q]; exact hz) line_big, k _ (p :: (G ++ Fu)) (c.mono fun b hb => by rw [List.mem_singleton] at hb; subst hb; exact List.mem_cons_self ..) ⟨p, _, G ++ Fu, rfl, rfl, ?_, upd_same, ?_, ?_⟩ ?_ ?_⟩
    · intro hp
      exact (List.mem_append.mp hp).elim na np
    · intro b hb
      have hbp : b ≠ p := fun e => by subst e; exact (List.mem_append.mp hb).elim na np
      obtain ⟨o, ho, hf⟩ := dm_app dm (Ty.dm ru) b hb
      exact ⟨o, by rw [upd_ne hbp]; exact ho, hf⟩
    · refine pr_app (Paired.mapP q fun w e z => ?_) (.cons ⟨Fu, kp ru np, fun b hb => List.mem_append_right _ hb⟩ .nil)
      obtain ⟨Fi, rr, sb⟩ := z
      exact ⟨Fi, kp rr fun hp => na (sb p hp), fun b hb => List.mem_append_left _ (sb b hb)⟩
    · intro b hb
      rcases List.mem_cons.mp hb with rfl | hb
      · exact List.mem_cons_self ..
      · exact List.mem_cons_of_mem _ (List.mem_append_left _ hb)
    · intro b hb
      rcases List.mem_cons.mp hb with rfl | hb
      · exact List.mem_append_left _ (List.mem_cons_self ..)
      · rcases List.mem_append.mp hb with hb | hb
        · exact List.mem_append_left _ (List.mem_cons_of_mem _ hb)
        · exact List.mem_append_right _ hb
  · cases hm
theorem Dj.ap {p : Addr} (d : Dj F Fu) (hp : p ∈ F) : p ∉ Fu := d p hp
theorem ap_of {xs : List α} (r : (yLsg τ).rep K H F v xs) (d : Dj F Fu) : ∀ p, v = .ref p → p ∉ Fu := fun p e => by
  obtain ⟨a, vs, G, e2, rfl, _⟩ := r
  rw [e] at e2
  obtain rfl := V.ref.inj e2
  exact d p (List.mem_cons_self ..)
theorem Dj.grow {G' : List Addr} (d : Dj F1 F) (d2 : Dj F1 Fu) (s : Sub G' (F ++ Fu)) : Dj F1 G' := fun b hb z => (List.mem_append.mp (s b z)).elim (d b hb) (d2 b hb)
theorem fresh_grow {H0 : Hp} {G' : List Addr} (n1 : ∀ a ∈ F, H0 a = none) (n2 : ∀ a ∈ Fu, H0 a = none) (s : Sub G' (F ++ Fu)) : ∀ a ∈ G', H0 a = none := fun b hb => (List.mem_append.mp (s b hb)).elim (n1 b) (n2 b)
theorem fresh_cons {H0 : Hp} {p : Addr} (n1 : H0 p = none) (n2 : ∀ a ∈ F, H0 a = none) : ∀ a ∈ p :: F, H0 a = none := fun b hb => by
  rcases List.mem_cons.mp hb with rfl | hb
  · exact n1
  · exact n2 b hb
theorem Dj.consR {p : Addr} (d1 : Dj F [p]) (d2 : Dj F F2) : Dj F (p :: F2) := fun b hb z => by
  rcases List.mem_cons.mp z with rfl | z
  · exact d1 b hb (List.mem_singleton.mpr rfl)
  · exact d2 b hb z
theorem Dj.subR {G' : List Addr} (d : Dj F G') (s : Sub F1 G') : Dj F F1 := fun b hb z => d b hb (s b z)
/-- a loop over it -/
theorem l_lsg {g : TG} {tb : TS} {nx : L2.St → Hp → Prop} {xs : List α} (r : (yLsg τ).rep K H F v xs) (Pv : Nat → L2.St → Hp → Prop) (h0 : Pv 0 σ H) (hl : ∀ i σ' H', Pv i σ' H' → (yLsg τ).rep K H' F v xs)
    (hs : ∀ (i : Nat) (x : α) (u : V) (Fi : List Addr) σ' H', xs[i]? = some x → τ.rep K H' Fi u x → Sub Fi F → Pv i σ' H' → g u σ' H' fun σ2 H2 => tb { D with nx := Pv (i + 1), ct := Pv (i + 1), bk := nx } σ2 H2) (hd : ∀ σ' H', Pv xs.length σ' H' → nx σ' H') :
    ∃ a, v = .ref a ∧ (∃ xs, SqL K H a xs) ∧ LoopG (Itl K a) g tb D nx σ H := by
  obtain ⟨a, vs, e, _, s, q⟩ := lsg_sq r
  refine ⟨a, e, ⟨vs, s⟩, fun i m σ' H' => m = xs.length - i ∧ i ≤ xs.length ∧ Pv i σ' H', ⟨xs.length, by omega, Nat.zero_le _, h0⟩, ?_⟩
  rintro i m σ' H' ⟨rfl, hi, p⟩
  obtain ⟨a', vs', e', _, s', q'⟩ := lsg_sq (hl i σ' H' p)
  obtain rfl : a = a' := by rw [e] at e'; exact V.ref.inj e'
  by_cases hlt : i < xs.length
  · obtain ⟨u, hu, Fi, ru, sb, _⟩ := pr_get q' (List.getElem?_eq_getElem hlt)
    refine .inr ⟨⟨vs', u, s', hu⟩, Pv (i + 1), fun σ2 H2 p' => ⟨xs.length - (i + 1), by omega, rfl, hlt, p'⟩, fun x H2 y => ?_⟩
    obtain ⟨rfl, y⟩ := y
    obtain rfl : x = u := Option.some.inj ((y _ s').symm.trans hu)
    exact hs i _ _ Fi σ' _ (List.getElem?_eq_getElem hlt) ru sb p
  · obtain rfl : i = xs.length := by omega
    exact .inl ⟨⟨vs', s', by rw [pr_len q']; exact Nat.le_refl _⟩, hd σ' H' p⟩
theorem kc_lsg {xs : List β} (r : (yLsg υ).rep K H F v xs) (Pv : Addr → Nat → Hp → Prop) (h0 : ∀ D H', H D = none → Chg [] H H' → (yLst τ).rep K H' [D] (.ref D) [] → Pv D 0 H') (hl : ∀ D i H', Pv D i H' → (yLsg υ).rep K H' F v xs)
    (hs : ∀ D (i : Nat) (x : β) (u : V) (Fi : List Addr) H', xs[i]? = some x → υ.rep K H' Fi u x → Sub Fi F → Pv D i H' → TurnG g tt te ws σ D (Pv D (i + 1)) u H') (hd : ∀ D H', H D = none → Pv D xs.length H' → Q (.ref D) H') :
    ∃ a, v = .ref a ∧ (∃ xs, SqL K H a xs) ∧ CompG (Itl K a) g tt te ws σ H Q := by
  obtain ⟨a, vs, e, _, s, q⟩ := lsg_sq r
  refine ⟨a, e, ⟨vs, s⟩, comp_by (K := K) (τ := τ) xs.length Pv h0 (fun D i H' hi p => ?_) (fun D H' hD p => ?_)⟩
  · obtain ⟨a', vs', e', _, s', q'⟩ := lsg_sq (hl D i H' p)
    obtain rfl : a = a' := by rw [e] at e'; exact V.ref.inj e'
    obtain ⟨u, hu, Fi, ru, sb, _⟩ := pr_get q' (List.getElem?_eq_getElem hi)
    refine ⟨⟨vs', u, s', hu⟩, fun x H2 y => ?_⟩
    obtain ⟨rfl, y⟩ := y
    obtain rfl : x = u := Option.some.inj ((y _ s').symm.trans hu)
    exact hs D i _ _ Fi _ (List.getElem?_eq_getElem hi) ru sb p
  · obtain ⟨a', vs', e', _, s', q'⟩ := lsg_sq (hl D _ H' p)
    obtain rfl : a = a' := by rw [e] at e'; exact V.ref.inj e'
    exact ⟨⟨vs', s', by rw [pr_len q']; exact Nat.le_refl _⟩, hd D H' hD p⟩
theorem w_listG {xs : List α} (r : (yLsg τ).rep K H F v xs) (k : ∀ p H' F', H p = none → Chg [] H H' → (yLsg τ).rep K H' F' (.ref p) xs → Sub F' (p :: F) → Q (.ref p) H') : rListQ K [v] H Q := by
  obtain ⟨a, vs, G, rfl, rfl, na, g, dm, q⟩ := r
  refine ⟨a, vs, rfl, .inl (.inl (.inl g)), fun n nn => k n _ (n :: G) nn (Chg.new nn) ⟨n, vs, G, rfl, rfl, fun hp => ?_, upd_same, fun b hb => ?_, Paired.mapP q fun w e z => ?_⟩ fun b hb => ?_⟩
  · obtain ⟨o, ho, _⟩ := dm n hp
    rw [nn] at ho; cases ho
  · obtain ⟨o, ho, hf⟩ := dm b hb
    exact ⟨o, by rw [upd_ne (ne_of_none ho nn)]; exact ho, hf⟩
  · obtain ⟨Fi, rr, sb⟩ := z
    exact ⟨Fi, Ty.ex rr (Chg.new nn), sb⟩
  · rcases List.mem_cons.mp hb with rfl | hb
    · exact List.mem_cons_self ..
    · exact List.mem_cons_of_mem _ (List.mem_cons_of_mem _ hb)
end
/-! ### data compared as a whole -/
structure Dat {α : Type} (τ : Ty α) (n : Nat) where
  f : α → PyData
  dec : DecidableEq α
  dp : ∀ {K : PySem.W.Frag} {H : Hp} {F : List Addr} {v : V} {d : α}, τ.rep K H F v d → Dp K H v (f d)
  lay : ∀ d, (f d).canLay0 = true
  dpt : ∀ d, (f d).depth ≤ n
  eqv : ∀ d e, PyData.eqv (f d) (f e) = decide (d = e)
theorem beq_dec {α : Type} [DecidableEq α] [BEq α] [LawfulBEq α] (a b : α) : (a == b) = decide (a = b) := by
  by_cases h : a = b
  · subst h; simp
  · rw [decide_eq_false h]; simpa using h
def dat_int : Dat yInt 0 where
  f := .int
  dec := inferInstance
  dp := fun h => by obtain ⟨_, rfl⟩ := h; exact .int _
  lay := fun d => by simp [PyData.canLay0]
  dpt := fun d => by simp [PyData.depth]
  eqv := fun d e => by simp only [PyData.eqv]; exact beq_dec d e
def dat_bool : Dat yBool 0 where
  f := .bool
  dec := inferInstance
  dp := fun h => by obtain ⟨_, rfl⟩ := h; exact .bl _
  lay := fun d => by simp [PyData.canLay0]
  dpt := fun d => by simp [PyData.depth]
  eqv := fun d e => by simp only [PyData.eqv]; exact beq_dec d e
section
variable {α β : Type} {τ : Ty α} {n m : Nat}
theorem dpAll {K : PySem.W.Frag} {H : Hp} {R : V → α → Prop} {f : α → PyData} (h : ∀ u x, R u x → Dp K H u (f x)) : ∀ {vs : List V} {xs : List α}, Paired R vs xs → DpAll K H vs (xs.map f)
  | _, _, .nil => .nil
  | _, _, .cons r t => .cons (h _ _ r) (dpAll h t)
theorem layAll {f : α → PyData} (h : ∀ d, (f d).canLay0 = true) : ∀ xs : List α, PyData.canLayAll0 (xs.map f) = true
  | [] => by simp [PyData.canLayAll0]
  | x :: xs => by simp [PyData.canLayAll0, h x, layAll h xs]
theorem dptAll {f : α → PyData} (h : ∀ d, (f d).depth ≤ n) : ∀ xs : List α, PyData.depthAll (xs.map f) ≤ n
  | [] => by simp [PyData.depthAll]
  | x :: xs => by
    simp only [List.map_cons, PyData.depthAll]
    exact Nat.max_le.mpr ⟨h x, dptAll h xs⟩
theorem eqvAllL [DecidableEq α] {f : α → PyData} (h : ∀ d e, PyData.eqv (f d) (f e) = decide (d = e)) : ∀ xs ys : List α, PyData.eqvAll (xs.map f) (ys.map f) = decide (xs = ys)
  | [], [] => by simp [PyData.eqvAll]
  | [], y :: ys => by simp [PyData.eqvAll]
  | x :: xs, [] => by simp [PyData.eqvAll]
  | x :: xs, y :: ys => by
    simp only [List.map_cons, PyData.eqvAll, h x y, eqvAllL h xs ys]
    by_cases h1 : x = y
    · by_cases h2 : xs = ys
      · simp [h1, h2]
      · simp [h2]
    · simp [h1]
def dat_lst (d : Dat τ n) : Dat (yLst τ) (n + 1) where
  f := fun xs => .list (xs.map d.f)
  dec := @instDecidableEqList _ d.dec
  dp := fun h => by
    obtain ⟨a, vs, rfl, s, q⟩ := lst_sq h
    exact .lst s (dpAll (fun u x z => d.dp z) q)
  lay := fun xs => by simp only [PyData.canLay0]; exact layAll d.lay xs
  dpt := fun xs => by simp only [PyData.depth]; exact Nat.succ_le_succ (dptAll d.dpt xs)
  eqv := fun xs ys => by simp only [PyData.eqv]; exact @eqvAllL _ d.dec _ d.eqv xs ys
def dat_lsg (d : Dat τ n) : Dat (yLsg τ) (n + 1) where
  f := fun xs => .list (xs.map d.f)
  dec := @instDecidableEqList _ d.dec
  dp := fun h => by
    obtain ⟨a, vs, rfl, _, s, q⟩ := lsg_sq h
    exact .lst s (dpAll (fun u x z => by obtain ⟨Fi, ru, _⟩ := z; exact d.dp ru) q)
  lay := fun xs => by simp only [PyData.canLay0]; exact layAll d.lay xs
  dpt := fun xs => by simp only [PyData.depth]; exact Nat.succ_le_succ (dptAll d.dpt xs)
  eqv := fun xs ys => by simp only [PyData.eqv]; exact @eqvAllL _ d.dec _ d.eqv xs ys
def dat_tupl (d : Dat τ n) : Dat (yTupL τ) (n + 1) where
  f := fun xs => .tuple (xs.map d.f)
  dec := @instDecidableEqList _ d.dec
  dp := fun h => by
    obtain ⟨a, vs, rfl, s, q⟩ := tupl_sq h
    exact .tup s (dpAll (fun u x z => d.dp z) q)
  lay := fun xs => by simp only [PyData.canLay0]; exact layAll d.lay xs
  dpt := fun xs => by simp only [PyData.depth]; exact Nat.succ_le_succ (dptAll d.dpt xs)
  eqv := fun xs ys => by simp only [PyData.eqv]; exact @eqvAllL _ d.dec _ d.eqv xs ys
end
structure Sat {α : Type} (ts : Tys α) (n : Nat) where
  f : α → List PyData
  dec : DecidableEq α
  dp : ∀ {K : PySem.W.Frag} {H : Hp} {F : List Addr} {vs : List V} {d : α}, ts.rep K H F vs d → DpAll K H vs (f d)
  lay : ∀ d, PyData.canLayAll0 (f d) = true
  dpt : ∀ d, PyData.depthAll (f d) ≤ n
  eqv : ∀ d e, PyData.eqvAll (f d) (f e) = decide (d = e)
section
variable {α β : Type} {τ : Ty α} {ts : Tys β} {n m : Nat}
def sat_one (d : Dat τ n) : Sat (sOne τ) n where
  f := fun x => [d.f x]
  dec := d.dec
  dp := fun h => by obtain ⟨v, rfl, r⟩ := h; exact .cons (d.dp r) .nil
  lay := fun x => by simp [PyData.canLayAll0, d.lay x]
  dpt := fun x => by simp only [PyData.depthAll]; exact Nat.max_le.mpr ⟨d.dpt x, Nat.zero_le _⟩
  eqv := fun x y => by simp [PyData.eqvAll, d.eqv x y]
def sat_cons (d : Dat τ n) (s : Sat ts m) : Sat (sCons τ ts) (max n m) where
  f := fun x => d.f x.1 :: s.f x.2
  dec := @instDecidableEqProd _ _ d.dec s.dec
  dp := fun h => by obtain ⟨v, ws, F1, F2, rfl, _, r, q⟩ := h; exact .cons (d.dp r) (s.dp q)
  lay := fun x => by simp [PyData.canLayAll0, d.lay x.1, s.lay x.2]
  dpt := fun x => by
    simp only [PyData.depthAll]
    have h1 := d.dpt x.1
    have h2 := s.dpt x.2
    omega
  eqv := fun x y => by
    obtain ⟨x1, x2⟩ := x
    obtain ⟨y1, y2⟩ := y
    letI := d.dec
    letI := s.dec
    simp only [PyData.eqvAll, d.eqv x1 y1, s.eqv x2 y2]
    by_cases h1 : x1 = y1
    · by_cases h2 : x2 = y2
      · subst h1 h2; simp
      · have : ¬ ((x1, x2) = (y1, y2)) := fun e => h2 (Prod.mk.inj e).2
        simp only [h2, decide_false, Bool.and_false]
        exact (decide_eq_false this).symm
    · have : ¬ ((x1, x2) = (y1, y2)) := fun e => h1 (Prod.mk.inj e).1
      simp only [h1, decide_false, Bool.false_and]
      exact (decide_eq_false this).symm
def dat_tup (s : Sat ts m) : Dat (yTup ts) (m + 1) where
  f := fun x => .tuple (s.f x)
  dec := s.dec
  dp := fun h => by obtain ⟨a, vs, rfl, sq, q⟩ := h; exact .tup sq (s.dp q)
  lay := fun x => by simp only [PyData.canLay0]; exact s.lay x
  dpt := fun x => by simp only [PyData.depth]; exact Nat.succ_le_succ (s.dpt x)
  eqv := fun x y => by simp only [PyData.eqv]; exact s.eqv x y
end
section
variable {X : Cx} {K : PySem.W.Frag} {H : Hp} {F1 F2 : List Addr} {v u : V} {α : Type} {τ : Ty α} {Q : VK} {n : Nat} {x y : α}
theorem op_eq_d {K : PySem.W.Frag} (hu : X.A.units + 64 < cLine) (e : X.K = K := by rfl) : OpR X (compareOp .Eq) (rEqD K) := by subst e; exact op_eqD hu
theorem op_ne_d {K : PySem.W.Frag} (hu : X.A.units + 64 < cLine) (e : X.K = K := by rfl) : OpR X (compareOp .NotEq) (rNeD K) := by subst e; exact op_neD hu
theorem Dat.shaped (d : Dat τ n) (hn : n ≤ 64) (x : α) : SeqAt.shaped (d.f x) = true := by
  unfold SeqAt.shaped
  rw [d.lay x, decide_eq_true (Nat.le_trans (d.dpt x) hn)]
  rfl
theorem w_eqD [i : DecidableEq α] (d : Dat τ n) (r : τ.rep K H F1 v x) (q : τ.rep K H F2 u y) (k : Q (.bl (decide (x = y))) H) (hn : n ≤ 64 := by decide) : rEqD K v u H Q :=
  ⟨_, _, d.dp r, d.dp q, d.shaped hn x, d.shaped hn y, by
    have e : @decide (x = y) (d.dec x y) = @decide (x = y) (i x y) := by congr
    rw [d.eqv, e]; exact k⟩
theorem w_neD [i : DecidableEq α] (d : Dat τ n) (r : τ.rep K H F1 v x) (q : τ.rep K H F2 u y) (k : Q (.bl (!decide (x = y))) H) (hn : n ≤ 64 := by decide) : rNeD K v u H Q :=
  ⟨_, _, d.dp r, d.dp q, d.shaped hn x, d.shaped hn y, by
    have e : @decide (x = y) (d.dec x y) = @decide (x = y) (i x y) := by congr
    rw [d.eqv, e]; exact k⟩
end
end G
namespace G
open PySem PySem.Spec PyProof.Rows L2
section
variable {K : PySem.W.Frag} {σ σ' : L2.St} {H : Hp} {F F1 F2 Fu : List Addr} {ta tb te : TE} {v u x y : V} {i j : Int} {α β : Type} {τ : Ty α} {υ : Ty β} {Q : VK} {D : Ends} {t1 t2 : TS} {g : TG} {ws : List Nat}
theorem lsg_nil {p : Addr} {υ : Ty β} (r : (yLst υ).rep K H [p] (.ref p) []) : (yLsg τ).rep K H [p] (.ref p) [] := by
  obtain ⟨a, vs, e, f, g, q⟩ := r
  obtain rfl := V.ref.inj e
  cases q
  exact ⟨p, [], [], rfl, rfl, List.not_mem_nil, g, fun b h => absurd h List.not_mem_nil, Paired.nil⟩
theorem e_appG {D : Addr} {N : Hp → Prop} {xs ys : List α} {d : α} (r : (yLsg τ).rep K H F (.ref D) xs) (ru : τ.rep K H Fu u d) (ap : ∀ p, V.ref D = .ref p → p ∉ Fu) (hm : Mi.app xs d = some ys)
    (k : ∀ H' F', Chg F H H' → (yLsg τ).rep K H' F' (.ref D) ys → Sub F F' → Sub F' (F ++ Fu) → N H') : AppG D N u H := by
  have h := m_appG (Q := fun _ H' => N H') r ru ap hm k
  obtain ⟨l, xs', y, e, e2, g, hz, q⟩ := h
  obtain rfl := V.ref.inj e
  obtain rfl : u = y := by simpa using e2
  exact ⟨xs', g, hz, q⟩
theorem enumF_at {α : Type} : ∀ (k : Int) (xs : List α) (i : Nat) {x : α}, xs[i]? = some x → (Mi.enumF k xs)[i]? = some (k + i, x)
  | _, [], _, _, h => by simp at h
  | k, y :: ys, 0, x, h => by
    obtain rfl : y = x := by simpa using h
    show some (k, y) = some (k + ((0 : Nat) : Int), y)
    rw [show k + ((0 : Nat) : Int) = k by omega]
  | k, y :: ys, i + 1, x, h => by
    show (Mi.enumF (k + 1) ys)[i]? = _
    rw [enumF_at (k + 1) ys i (by simpa using h)]
    congr 2
    omega
theorem enumF_len {α : Type} : ∀ (k : Int) (xs : List α), (Mi.enumF k xs).length = xs.length
  | _, [] => rfl
  | k, _ :: ys => by show (Mi.enumF (k + 1) ys).length + 1 = ys.length + 1; rw [enumF_len]
theorem w_iEnum {ts : TA} {R : It → Hp → Prop} (h : ts σ H fun vs H1 => ∃ a xs, vs = [.ref a] ∧ SqL K H1 a xs ∧ R (Ite K a) H1) : iEnum K ts σ H R := h
theorem l_enum {tb : TS} {nx : L2.St → Hp → Prop} {xs : List α} {i1 i2 : Nat} (r : (yLst τ).rep K H F v xs) (Pv : Nat → L2.St → Hp → Prop) (h0 : Pv 0 σ H) (hl : ∀ i σ' H', Pv i σ' H' → (yLst τ).rep K H' F v xs)
    (hs : ∀ (i : Nat) (x : Int × α) (u : V) σ' H' H2, (Mi.enumF 0 xs)[i]? = some x → Chg [] H' H2 → τ.rep K H2 [] u x.2 → Pv i σ' H' → tb { D with nx := Pv (i + 1), ct := Pv (i + 1), bk := nx } ((σ'.set i1 (some (.int x.1))).set i2 (some u)) H2) (hd : ∀ σ' H', Pv (Mi.enumF 0 xs).length σ' H' → nx σ' H') :
    ∃ a xs, [v] = [.ref a] ∧ SqL K H a xs ∧ LoopG (Ite K a) (gTup K 2 (gCons (gName i1) (gCons (gName i2) gNil))) tb D nx σ H := by
  obtain ⟨a, vs, rfl, s, q⟩ := lst_sq r
  refine ⟨a, vs, rfl, s, fun i m σ' H' => m = xs.length - i ∧ i ≤ xs.length ∧ Pv i σ' H', ⟨xs.length, by omega, Nat.zero_le _, h0⟩, ?_⟩
  rintro i m σ' H' ⟨rfl, hi, p⟩
  obtain ⟨a', vs', e', s', q'⟩ := lst_sq (hl i σ' H' p)
  obtain rfl := V.ref.inj e'
  by_cases hlt : i < xs.length
  · obtain ⟨u, hu, ru⟩ := pr_get q' (List.getElem?_eq_getElem hlt)
    refine .inr ⟨⟨vs', u, s', hu⟩, Pv (i + 1), fun σ2 H2 p' => ⟨xs.length - (i + 1), by omega, rfl, hlt, p'⟩, fun x H2 y => ?_⟩
    obtain ⟨T, w, rfl, nT, rfl, y⟩ := y
    obtain rfl : w = u := Option.some.inj ((y _ s').symm.trans hu)
    have hx := enumF_at 0 xs i (List.getElem?_eq_getElem hlt)
    have c : Chg [] H' (upd H' T (.tup [.int (i : Nat), w])) := Chg.new nT
    have h := hs i _ w σ' H' _ hx c (Ty.ex ru c) p
    have e0 : (0 : Int) + (i : Int) = (i : Int) := Int.zero_add _
    rw [e0] at h
    exact ⟨T, _, rfl, .inl (.inl upd_same), rfl, _, _, rfl, _, _, rfl, rfl, h⟩
  · obtain rfl : i = xs.length := by omega
    exact .inl ⟨⟨vs', s', by rw [pr_len q']; exact Nat.le_refl _⟩, hd σ' H' (by rw [enumF_len]; exact p)⟩
end
end G
namespace G
theorem of_guard {p : Prop} [Decidable p] {u : Unit} (h : Mi.guardO (decide p) = some u) : p := by
  unfold Mi.guardO at h
  split at h
  · exact of_decide_eq_true (by assumption)
  · cases h
end G

/-! ### enumerate over a tuple -/
namespace PySem
open Sem (wp)
theorem enumT_meets (l : Addr) (its : Array Value) :
    Meets (Builtin.«enumerate.__new__» ⟨[.type "enumerate", .ref l], []⟩) (fun _ R s => s.heap.IsTuple l its ∧
      R (.ok (.ret (.ref (s.heap.push { cls := .type "tuple_iterator", data := .fields #[.ref l, .int 0 0] }).objs.size)))
        { s with heap := (s.heap.push { cls := .type "tuple_iterator", data := .fields #[.ref l, .int 0 0] }).push { cls := .type "enumerate", data := .fields #[.none, .bool false, .ref s.heap.objs.size, rawInt 0, .none, .none] } }) :=
  .of_wp fun prog w A R s hz => by
    obtain ⟨hp, gl, d, tk, os⟩ := s
    obtain ⟨hT, hz⟩ := hz
    have hsb := sub_enumerate
    have ht : Heap.IsTuple (Shared.heap ⟨hp, gl, d, tk, os⟩) l its := hT
    wp_walk
    refine wpAny_stack_any fun stk => wpAny_pure ?_
    split
    · rename_i c _ _ _ _ _
      cases (c == Value.type "enumerate")
      all_goals (wp_walk using wpAny_pyIter_tuple ht; exact ⟨_, rfl, hz⟩)
    · (wp_walk using wpAny_pyIter_tuple ht); exact ⟨_, rfl, hz⟩
section
variable {prog : Program} {w : World} {A : Around} {E : Value → Shared → Prop} {s : Shared}
theorem enumT_call {l : Addr} {its : Array Value} {Q : Value → Shared → Prop} (hL : s.heap.IsTuple l its)
    (k : ∀ h', IsEnum h' (s.heap.objs.size + 1) s.heap.objs.size 0 .none → h'.IsTupleIter s.heap.objs.size l 0 → h'.objs.size = s.heap.objs.size + 2 →
      (∀ b o, s.heap.get? b = some o → h'.get? b = some o) → Q (.ref (s.heap.objs.size + 1)) { s with heap := h' }) :
    wpAny (model prog w) A (call (.type "enumerate") [.ref l]) Q E s := by
  refine callType_new F.called_enumerate (by decide) (F.typeCall_enumerate_1 _) (F.newCall_enumerate_1 _) (fun ob => F.args_object_init_2 ob _) F.entry_enumerate_new (enumT_meets l its) ⟨hL, ?_⟩
  have sz : (s.heap.push { cls := .type "tuple_iterator", data := .fields #[.ref l, .int 0 0] }).objs.size = s.heap.objs.size + 1 := Heap.size_push ..
  show _ ∧ _
  rw [sz]
  have en : IsEnum ((s.heap.push { cls := .type "tuple_iterator", data := .fields #[.ref l, .int 0 0] }).push
      { cls := .type "enumerate", data := .fields #[.none, .bool false, .ref s.heap.objs.size, rawInt 0, .none, .none] }) (s.heap.objs.size + 1) s.heap.objs.size 0 .none := by
    have z := Heap.get?_push_size (s.heap.push { cls := .type "tuple_iterator", data := .fields #[.ref l, .int 0 0] })
      (o := { cls := .type "enumerate", data := .fields #[.none, .bool false, .ref s.heap.objs.size, rawInt 0, .none, .none] }) rfl
    rw [sz] at z; exact z
  exact ⟨⟨_, en, rfl⟩, k _ en ⟨_, Heap.get?_push_of_some _ (Heap.get?_push_size _ rfl), rfl, rfl⟩ (by rw [Heap.size_push, sz]) fun b o x => Heap.get?_push_of_some _ (Heap.get?_push_of_some _ x)⟩
end
end PySem
namespace L2
open PySem PySem.Spec PyProof.Rows
/-- the tuple at a, each item in a new pair -/
def ItT (K : PySem.W.Frag) (a : Addr) : It :=
  ⟨fun i H => ∃ (xs : List V) (x : V), SqT K H a xs ∧ xs[i]? = some x, fun i H v H' => ∃ T x, v = .ref T ∧ H T = none ∧ H' = upd H T (.tup [.int (i : Nat), x]) ∧ ∀ xs, SqT K H a xs → xs[i]? = some x, fun i H => ∃ xs : List V, SqT K H a xs ∧ xs.length ≤ i⟩
theorem turn_enumT {P : Program} {w : World} {K : PySem.W.Frag} {elts : List Expr} {kk : Nat} {tpos : Pos} (a e it : Addr) :
    Turn P w K (.Tuple elts kk tpos) (ItT K a) [e, it] e (fun i h => (∃ old, IsEnum h e it ((i : Nat) : Int) old) ∧ h.IsTupleIter it a i ∧ e ≠ it) where
  mem := by simp
  obj := fun i h st b hb => by
    obtain ⟨⟨old, he⟩, ⟨o, ho, hc, hd⟩, _⟩ := st
    rcases (show b = e ∨ b = it by simpa using hb) with z | z
    · rw [z]; exact ⟨_, he, fun v q => nomatch q⟩
    · rw [z]; exact ⟨o, ho, fun v q => by rw [hd] at q; cases q⟩
  keep := fun i h h' st k => let ⟨⟨old, he⟩, hi, hne⟩ := st; ⟨⟨old, k e (by simp) _ he⟩, hi.at fun o q => k it (by simp) o q, hne⟩
  item := by
    intro X hP hw hK hc i pins s σ H E I hf st hg
    subst hP hw hK
    obtain ⟨⟨old, hen⟩, hit, hne⟩ := st
    obtain ⟨xs, x, hsq, hx⟩ := hg
    obtain ⟨its, rv, pT, _⟩ := I.tuple hsq
    obtain ⟨u, hu, ru⟩ := rv.get hx
    have hel : e < s.heap.objs.size := Heap.lt_size hen
    have hil : it < s.heap.objs.size := by obtain ⟨_, q, _⟩ := hit; exact Heap.lt_size q
    have hT : s.heap.IsTuple a its.toArray := pT
    have hai : a ≠ it := fun z => by
      obtain ⟨o1, e1, c1, _⟩ := hT
      obtain ⟨o2, e2, c2, _⟩ := hit
      rw [z, e2] at e1
      cases e1
      rw [c1] at c2
      exact absurd c2 (by decide)
    have hea : e ≠ a := fun z => by
      obtain ⟨o1, e1, c1, _⟩ := hT
      rw [← z] at e1
      have z2 : s.heap.get? e = _ := hen
      rw [z2] at e1
      cases e1
      exact absurd (show (Value.type "enumerate" : Value) = .type "tuple" from c1) (by decide)
    have hD := Draws.tuple (prog := X.prog) (w := X.w) (A := X.A.in1) (I.ok.hd hc) it a hai its.toArray
    refine wpAny_pyNext_enum_itemD hD hen ⟨hit, hT⟩ (by have := (List.getElem?_eq_some_iff.mp hu).1; simpa using this) hne (by simp [hne, hea]) fun y h' tk hy ho st' hT1 hsz hk => ?_
    obtain rfl : u = y := by
      have hy' : its.toArray[i]? = some y := hy
      rw [List.getElem?_toArray, hu] at hy'
      exact Option.some.inj hy'
    refine ⟨_, rfl, wpAny_letOwnedTupleGo_enum (s := { s with heap := h', toks := tk + 1 }) ho fun h2 he2 sb => ?_⟩
    have hT2 : h2.get? s.heap.objs.size = some { cls := .type "tuple", data := .seq #[.int i tk, u] } := (sb.2 _ (Nat.ne_of_gt hel)).trans hT1
    have nw : ObjOk X.prog X.w (upd H s.heap.objs.size (.tup [.int (i : Nat), x])) h2 s.heap.objs.size (.tup [.int (i : Nat), x]) :=
      ⟨by show 2 ≤ sizeLine; decide, [.int i tk, u], .cons ⟨_, rfl⟩ (.cons ru .nil), ⟨_, hT2, rfl, _, rfl⟩⟩
    have I1 : Inv X pins σ (upd H s.heap.objs.size (.tup [.int (i : Nat), x])) { s with heap := h2, toks := tk + 1 } :=
      I.turnedNew (ch := [e, it]) (fun b ob hb q => (sb.2 b (fun z => hb (by simp [z]))).trans (hk b ob (fun z => hb (by simp [z])) (fun z => hb (by simp [z])) q)) hf (Nat.le_refl _) nw
    refine ⟨.ref s.heap.objs.size, _, I1, rfl, ⟨_, x, rfl, I.hok.fresh (Nat.le_refl _), rfl, fun ys hy => by rw [I.tuple_inj hy hsq]; exact hx⟩, ⟨⟨u, ?_⟩, st'.1.at fun o q => (sb.2 it (Ne.symm hne)).trans q, hne⟩, fun b hb => ?_⟩
    · rw [show ((i + 1 : Nat) : Int) = (i : Int) + 1 by omega]; exact he2
    · have hb' : b < s.heap.objs.size := by
        rcases (show b = e ∨ b = it by simpa using hb) with z | z
        · rw [z]; exact hel
        · rw [z]; exact hil
      rw [upd_ne (Nat.ne_of_lt hb')]
      exact (hf b hb).1
  done := by
    intro X hP hw hK hc i pins s σ H E I hf st hg
    subst hP hw hK
    obtain ⟨⟨old, hen⟩, hit, hne⟩ := st
    obtain ⟨xs, hsq, hx⟩ := hg
    obtain ⟨its, rv, pT, _⟩ := I.tuple hsq
    obtain ⟨f0, f1, f2, f3, f4, f5⟩ := hf it (by simp)
    have hl := rv.length
    have hT : s.heap.IsTuple a its.toArray := pT
    have hai : a ≠ it := fun z => by
      obtain ⟨o1, e1, c1, _⟩ := hT
      obtain ⟨o2, e2, c2, _⟩ := hit
      rw [z, e2] at e1
      cases e1
      rw [c1] at c2
      exact absurd c2 (by decide)
    have hTy : s.TypeIs (.ref e) "enumerate" := ⟨_, hen, rfl⟩
    unfold pyNext
    refine wpAny_bind (wpAny_attempt (wpAny_callSpecial?_slot (name := Str.ofString "__next__") hTy F.slot_enumerate_next (wpAny_call_entry F.slot_enumerate_next hTy F.entry_enumerate_next ?_ (F.args_enumerate_next_1 _))))
    show wpAny _ _ (field (.ref e) 2 >>= _) _ _ _
    refine wpAny_bind (wpAny_field hen rfl (x := .ref it) rfl ?_)
    refine wpAny_bind (wpAny_nextOf_tuple_end (I.ok.hd hc) hit hT (by simp; omega) fun h' y eb hy => ?_)
    obtain ⟨o, ho, hcl⟩ := hy
    refine wpAny_bind (wpAny_isInstance (T := "StopIteration") (b := true) ⟨o, ho, hcl⟩ isSubtype_stop ?_)
    exact wpAny_pure ⟨rfl, I.turned (t' := s.toks) (fun b o hb q => eb b o hb q) f0 f1 f3 f4 f5⟩
  self := fun A i s Q E st h => let ⟨⟨_, he⟩, _⟩ := st; wpAny_pyIter_enum he h
def iEnumT (K : PySem.W.Frag) (ta : TA) : TI := fun σ H R => ta σ H fun vs H1 => ∃ a xs, vs = [.ref a] ∧ SqT K H1 a xs ∧ R (ItT K a) H1
theorem pi_enumT {X : Cx} {e : Expr} {ta : TA} {p pos tpos : Pos} {elts : List Expr} {kk : Nat} (hg : Gl X "enumerate") (hm : X.mg "enumerate" = none) (ha : PA X [e] ta) (hs : starEach [e] X.env = [(false, eval e X.env)] := by rfl) :
    PI X (.Tuple elts kk tpos) (.Call (.Name "enumerate" p) [e] [] pos) (iEnumT X.K ta) := by
  refine ⟨fun pins s σ H R I h => ?_⟩
  refine Call_ (ld_blt I hg hm boot_enumerate (PyProof.Rows.callWith_type1 (thn (ha.run pos pins s σ H _ I h) fun us s1 ⟨vs, H1, I1, r1, q1⟩ => ?_) hs rfl))
  obtain ⟨a, xs, rfl, hsq, q⟩ := q1
  cases r1 with
  | cons r rr =>
    cases rr
    cases r
    obtain ⟨its, rv, pT, _⟩ := I1.tuple hsq
    refine enumT_call (show s1.heap.IsTuple a its.toArray from pT) fun h' hen hit hsz hk => wpAny_pyIter_enum hen ?_
    have I2 : Inv X pins σ H1 { s1 with heap := h' } := I1.kept (t' := s1.toks) hk
    refine ⟨s1.heap.objs.size + 1, [s1.heap.objs.size + 1, s1.heap.objs.size], _, _, H1, rfl, I2, turn_enumT a (s1.heap.objs.size + 1) s1.heap.objs.size, ⟨⟨.none, hen⟩, hit, Nat.succ_ne_self _⟩, fun b hb => ?_, q⟩
    have hle : s1.heap.objs.size ≤ b := by
      rcases (show b = s1.heap.objs.size + 1 ∨ b = s1.heap.objs.size by simpa using hb) with z | z
      · rw [z]; exact Nat.le_add_right _ _
      · rw [z]; exact Nat.le_refl _
    exact I1.fpOk hle (I1.hok.fresh hle)
end L2
namespace G
open PySem PySem.Spec PyProof.Rows L2
section
variable {K : PySem.W.Frag} {σ σ' : L2.St} {H : Hp} {F F1 F2 Fu : List Addr} {ta tb te : TE} {v u x y : V} {i j : Int} {α β : Type} {τ : Ty α} {υ : Ty β} {Q : VK} {D : Ends} {t1 t2 : TS} {g : TG} {ws : List Nat}
theorem w_iEnumT {ts : TA} {R : It → Hp → Prop} (h : ts σ H fun vs H1 => ∃ a xs, vs = [.ref a] ∧ SqT K H1 a xs ∧ R (ItT K a) H1) : iEnumT K ts σ H R := h
theorem l_enumT {tb : TS} {nx : L2.St → Hp → Prop} {xs : List α} {i1 i2 : Nat} (r : (yTupL τ).rep K H F v xs) (Pv : Nat → L2.St → Hp → Prop) (h0 : Pv 0 σ H) (hl : ∀ i σ' H', Pv i σ' H' → (yTupL τ).rep K H' F v xs)
    (hs : ∀ (i : Nat) (x : Int × α) (u : V) σ' H' H2, (Mi.enumF 0 xs)[i]? = some x → Chg [] H' H2 → τ.rep K H2 [] u x.2 → Pv i σ' H' → tb { D with nx := Pv (i + 1), ct := Pv (i + 1), bk := nx } ((σ'.set i1 (some (.int x.1))).set i2 (some u)) H2) (hd : ∀ σ' H', Pv (Mi.enumF 0 xs).length σ' H' → nx σ' H') :
    ∃ a xs, [v] = [.ref a] ∧ SqT K H a xs ∧ LoopG (ItT K a) (gTup K 2 (gCons (gName i1) (gCons (gName i2) gNil))) tb D nx σ H := by
  obtain ⟨a, vs, rfl, s, q⟩ := tupl_sq r
  refine ⟨a, vs, rfl, s, fun i m σ' H' => m = xs.length - i ∧ i ≤ xs.length ∧ Pv i σ' H', ⟨xs.length, by omega, Nat.zero_le _, h0⟩, ?_⟩
  rintro i m σ' H' ⟨rfl, hi, p⟩
  obtain ⟨a', vs', e', s', q'⟩ := tupl_sq (hl i σ' H' p)
  obtain rfl := V.ref.inj e'
  by_cases hlt : i < xs.length
  · obtain ⟨u, hu, ru⟩ := pr_get q' (List.getElem?_eq_getElem hlt)
    refine .inr ⟨⟨vs', u, s', hu⟩, Pv (i + 1), fun σ2 H2 p' => ⟨xs.length - (i + 1), by omega, rfl, hlt, p'⟩, fun x H2 y => ?_⟩
    obtain ⟨T, w, rfl, nT, rfl, y⟩ := y
    obtain rfl : w = u := Option.some.inj ((y _ s').symm.trans hu)
    have hx := enumF_at 0 xs i (List.getElem?_eq_getElem hlt)
    have c : Chg [] H' (upd H' T (.tup [.int (i : Nat), w])) := Chg.new nT
    have h := hs i _ w σ' H' _ hx c (Ty.ex ru c) p
    have e0 : (0 : Int) + (i : Int) = (i : Int) := Int.zero_add _
    rw [e0] at h
    exact ⟨T, _, rfl, .inl (.inl upd_same), rfl, _, _, rfl, _, _, rfl, rfl, h⟩
  · obtain rfl : i = xs.length := by omega
    exact .inl ⟨⟨vs', s', by rw [pr_len q']; exact Nat.le_refl _⟩, hd σ' H' (by rw [enumF_len]; exact p)⟩
end
end G

namespace G
open PySem PySem.Spec PyProof.Rows L2
section
variable {K : PySem.W.Frag} {σ σ' : L2.St} {H : Hp} {F F1 F2 Fu : List Addr} {ta tb te : TE} {v u x y : V} {i j : Int} {α β : Type} {τ : Ty α} {υ : Ty β} {Q : VK} {D : Ends} {t1 t2 : TS} {g : TG} {ws : List Nat}
theorem st_eq {t : TS} (e : σ = σ') (h : t D σ' H) : t D σ H := e ▸ h
theorem m_popAtG {xs : List α} {p : α × List α} (r : (yLsg τ).rep K H F v xs) (hm : Mi.popAt xs i = some p) (hb : xs.length ≤ Mi.big)
    (k : ∀ u H' Fi, Chg F H H' → τ.rep K H' Fi u p.1 → Sub Fi F → (yLsg τ).rep K H' F v p.2 → Q u H') : rPopAt v [.int i] H Q := by
  obtain ⟨l, vs, G, rfl, rfl, na, g, dm, q⟩ := r
  unfold Mi.popAt at hm
  obtain ⟨j, hj, hm⟩ := Mi.bnd hm
  obtain ⟨y, hy, hm⟩ := Mi.bnd hm
  obtain rfl := Option.some.inj hm
  obtain ⟨u, hu, Fi, ru, sb⟩ := pr_get q hy
  have c : Chg [l] H (upd H l (.lst (vs.eraseIdx j))) := Chg.wr g (fun z => z)
  have kp : ∀ {γ : Type} {ρ : Ty γ} {Fi : List Addr} {w : V} {e : γ}, ρ.rep K H Fi w e → l ∉ Fi → ρ.rep K (upd H l (.lst (vs.eraseIdx j))) Fi w e := fun rr hn => Ty.chg rr c fun b hb z => by
    rw [List.mem_singleton] at z; subst z; exact hn hb
  obtain ⟨h1, h2, h3, h4⟩ := ixN_seq (show L2.ixN vs.length i = some j by rw [pr_len q]; exact hj)
  have hb2 : vs.length ≤ 1000000 := by rw [pr_len q]; exact hb
  refine ⟨l, vs, i, j, u, rfl, rfl, g, by omega, by omega, h1, hu, k u _ Fi (c.mono fun b hb => by rw [List.mem_singleton] at hb; subst hb; exact List.mem_cons_self ..) (kp ru fun hp => na (sb l hp)) (fun b hb => List.mem_cons_of_mem _ (sb b hb)) ⟨l, _, G, rfl, rfl, na, upd_same, fun b hb => ?_, Paired.mapP (pr_erase q j) fun w e z => ?_⟩⟩
  · obtain ⟨o, ho, hf⟩ := dm b hb
    have hbl : b ≠ l := fun z => by subst z; exact na hb
    exact ⟨o, by rw [upd_ne hbl]; exact ho, hf⟩
  · obtain ⟨Fi, rr, s2⟩ := z
    exact ⟨Fi, kp rr fun hp => na (s2 l hp), s2⟩
end
end G
namespace G
open PySem PySem.Spec PyProof.Rows L2
theorem pe_fldk {X : Cx} {K : PySem.W.Frag} {e : Expr} {f : Str} {pos : Pos} {ta : TE} (he : PE X e ta) (hb : attributeBase e f X.env (eval e X.env) = eval e X.env) (hk : X.K = K := by rfl) : PE X (.Attribute e f pos) (tFld K ta f) := by
  subst hk; exact pe_fld he hb
end G

namespace G
open PySem PySem.Spec PyProof.Rows L2
/-! ### texts -/
theorem toS_len (l : List Nat) : (toS l).length = l.length := by simp [toS, Str.length]
theorem toS_tl (l : List Nat) : (toS l).cps.toList = l := by simp [toS]
theorem toS_inj {a b : List Nat} (h : toS a = toS b) : a = b := by rw [← toS_tl a, h, toS_tl]
theorem toS_of {x : Str} {l : List Nat} (h : x.cps.toList = l) : x = toS l := by
  obtain ⟨c⟩ := x
  show Str.mk c = Str.mk l.toArray
  congr 1
  rw [← h]
theorem toS_app (a b : List Nat) : toS a ++ toS b = toS (a ++ b) := toS_of (by
  refine (TL.tl_append (toS a) (toS b)).trans ?_
  show (toS a).cps.toList ++ (toS b).cps.toList = _
  rw [toS_tl, toS_tl])
theorem dTx {a b : List Nat} : decide (V.str (toS a) = V.str (toS b)) = decide (a = b) := by
  by_cases h : a = b
  · subst h; simp
  · rw [decide_eq_false h, decide_eq_false]
    intro z
    exact h (toS_inj (V.str.inj z))
theorem bigS {n : Nat} (h : n ≤ Mi.big) : n ≤ sizeLine := Nat.le_trans h (by decide)
section
variable {X : Cx} {K : PySem.W.Frag} {σ σ' : L2.St} {H : Hp} {F F1 F2 Fu : List Addr} {ta tb te to : TE} {v u x y : V} {i j : Int} {α β : Type} {τ : Ty α} {υ : Ty β} {Q : VK} {D : Ends} {g : TG} {ws : List Nat} {a b c : List Nat} {t tu tt : TT}
theorem val_cS {s : Str} (h : s = toS a) : Val (tC (.str s)) σ H (.str (toS a)) := by subst h; exact val_c
theorem val_eqS (ha : Val ta σ H (.str (toS a))) (hb : Val tb σ H (.str (toS b))) : Val (tOp rEq ta tb) σ H (.bl (decide (a = b))) := val_op ha hb fun Q q => ⟨rfl, by rw [dTx]; exact q⟩
theorem val_neS (ha : Val ta σ H (.str (toS a))) (hb : Val tb σ H (.str (toS b))) : Val (tOp rNe ta tb) σ H (.bl (!decide (a = b))) := val_op ha hb fun Q q => ⟨rfl, by rw [dTx]; exact q⟩
theorem w_eqS (k : Q (.bl (decide (a = b))) H) : rEq (.str (toS a)) (.str (toS b)) H Q := ⟨rfl, by rw [dTx]; exact k⟩
theorem w_neS (k : Q (.bl (!decide (a = b))) H) : rNe (.str (toS a)) (.str (toS b)) H Q := ⟨rfl, by rw [dTx]; exact k⟩
/-- len -/
def rLenT : List V → Hp → VK → Prop := fun xs H Q => ∃ z, xs = [.str z] ∧ z.length ≤ sizeLine ∧ Q (.int z.length) H
theorem cl_lenTx : CallR X (.builtin "len") rLenT := call_len_str
theorem w_lenTx {n : Int} (hm : Mi.sLen a = some n) (k : Q (.int n) H) : rLenT [.str (toS a)] H Q := by
  unfold Mi.sLen at hm
  split at hm
  · obtain rfl := Option.some.inj hm
    exact ⟨_, rfl, by rw [toS_len]; exact bigS (by assumption), by rw [toS_len]; exact k⟩
  · cases hm
theorem val_lenTx {n : Int} (hm : Mi.sLen a = some n) (ha : Val ta σ H (.str (toS a))) : Val (tCB rLenT (tCons ta tNil)) σ H (.int n) := fun Q k => ha _ (w_lenTx hm k)
/-- s[i] -/
theorem w_ixS (hm : Mi.sAt a i = some b) (k : Q (.str (toS b)) H) : rIxS (.str (toS a)) (.int i) H Q := by
  unfold Mi.sAt at hm
  split at hm
  · cases e : Mi.at_ a i with
    | none => rw [e] at hm; cases hm
    | some z =>
      rw [e] at hm
      obtain rfl := Option.some.inj hm
      exact ⟨_, i, z, rfl, rfl, by rw [toS_len]; exact bigS (by assumption), by rw [toS_tl]; exact e, k⟩
  · cases hm
theorem val_ixS (hm : Mi.sAt a i = some b) (ha : Val ta σ H (.str (toS a))) (hb : Val tb σ H (.int i)) : Val (tOp rIxS ta tb) σ H (.str (toS b)) := val_op ha hb fun Q q => w_ixS hm q
/-- s + t -/
theorem op_catS : OpR X (binaryOp .Add) rAddS := op_add_str
theorem w_catS (hm : Mi.sCat a b = some c) (k : Q (.str (toS c)) H) : rAddS (.str (toS a)) (.str (toS b)) H Q := by
  unfold Mi.sCat at hm
  split at hm
  · obtain rfl := Option.some.inj hm
    exact ⟨_, _, rfl, rfl, by rw [toS_len, toS_len]; exact bigS (by assumption), by rw [toS_app]; exact k⟩
  · cases hm
theorem val_catS (hm : Mi.sCat a b = some c) (ha : Val ta σ H (.str (toS a))) (hb : Val tb σ H (.str (toS b))) : Val (tOp rAddS ta tb) σ H (.str (toS c)) := val_op ha hb fun Q q => w_catS hm q
/-- c in s -/
def rInC : R2 := fun x y H Q => ∃ (c : Nat) (z : Str), x = .str ⟨#[c]⟩ ∧ y = .str z ∧ Q (.bl (decide (c ∈ z.cps.toList))) H
def rNiC : R2 := fun x y H Q => ∃ (c : Nat) (z : Str), x = .str ⟨#[c]⟩ ∧ y = .str z ∧ Q (.bl (!decide (c ∈ z.cps.toList))) H
theorem op_in_c : OpR X (compareOp .In) rInC := op_in_sign
theorem op_ni_c : OpR X (compareOp .NotIn) rNiC := op_notIn_sign
theorem sIn_some {k : Bool} (hm : Mi.sIn a b = some k) : ∃ c, a = [c] ∧ decide (c ∈ b) = k := by
  match a, hm with
  | [c], hm => exact ⟨c, rfl, by rw [← List.contains_eq_mem]; exact Option.some.inj hm⟩
theorem w_inC {k : Bool} (hm : Mi.sIn a b = some k) (q : Q (.bl k) H) : rInC (.str (toS a)) (.str (toS b)) H Q := by
  obtain ⟨c, rfl, e⟩ := sIn_some hm
  exact ⟨c, _, rfl, rfl, by rw [toS_tl, e]; exact q⟩
theorem w_niC {k : Bool} (hm : Mi.sIn a b = some k) (q : Q (.bl (!k)) H) : rNiC (.str (toS a)) (.str (toS b)) H Q := by
  obtain ⟨c, rfl, e⟩ := sIn_some hm
  exact ⟨c, _, rfl, rfl, by rw [toS_tl, e]; exact q⟩
theorem val_inC {k : Bool} (hm : Mi.sIn a b = some k) (ha : Val ta σ H (.str (toS a))) (hb : Val tb σ H (.str (toS b))) : Val (tOp rInC ta tb) σ H (.bl k) := val_op ha hb fun Q q => w_inC hm q
theorem val_niC {k : Bool} (hm : Mi.sIn a b = some k) (ha : Val ta σ H (.str (toS a))) (hb : Val tb σ H (.str (toS b))) : Val (tOp rNiC ta tb) σ H (.bl (!k)) := val_op ha hb fun Q q => w_niC hm q
/-- s[lo:hi] -/
theorem sIx_eq (n d : Nat) (o : Option Int) : HT.sIx n d o = Mi.sIx n d o := by
  cases o <;> rfl
theorem w_cutS {lo hi : Option Int} (hm : Mi.sCut a lo hi = some b) (k : Q (.str (toS b)) H) : rSlS (.str (toS a)) lo hi H Q := by
  unfold Mi.sCut at hm
  split at hm
  · obtain rfl := Option.some.inj hm
    refine ⟨_, rfl, by rw [toS_len]; exact bigS (by assumption), ?_⟩
    have e : cutS (toS a) lo hi = toS (Mi.cut a lo hi) := by
      unfold cutS
      rw [toS_tl, toS_len, sIx_eq, sIx_eq]
      rfl
    rw [e]; exact k
  · cases hm
/-- sep.join(xs) -/
def rJoinQ (K : PySem.W.Frag) : V → List V → Hp → VK → Prop := fun x xs H Q => ∃ a p, ∃ ys : List Str, x = .str a ∧ xs = [.ref p] ∧ (SqL K H p (ys.map V.str) ∨ SqT K H p (ys.map V.str)) ∧ (ys.map (·.length)).sum + ys.length * a.length ≤ 16777216 ∧ Q (.str (Txt.join a ys)) H
theorem pe_joinQ {K : PySem.W.Frag} {o e : Expr} {apos pos : Pos} (ho : PE X o to) (he : PE X e te) (hk : X.K = K := by rfl) (hs : starEach [e] X.env = [(false, eval e X.env)] := by rfl) (hbase : attributeBase o "join" X.env (eval o X.env) = eval o X.env := by rfl) (hline : (apos.endLine == pos.line) = true := by rfl) :
    PE X (.Call (.Attribute o "join" apos) [e] [] pos) (tM1 (rJoinQ K) to te) := by subst hk; exact pe_join ho he hs hbase hline
theorem joinL_eq (s : List Nat) : ∀ xs : List (List Nat), TL.joinL s xs = Mi.joinL s xs
  | [] => rfl
  | [_] => rfl
  | p :: q :: r => by
    show p ++ (s ++ TL.joinL s (q :: r)) = p ++ (s ++ Mi.joinL s (q :: r))
    rw [joinL_eq s (q :: r)]
theorem strs_mk : ∀ {vs : List V} {xs : List (List Nat)}, Paired (fun u d => yStr.rep K H [] u d) vs xs → vs = (xs.map toS).map V.str
  | _, _, .nil => rfl
  | _, _, .cons r t => by rw [r.2, strs_mk t]; rfl
theorem w_joinL {xs : List (List Nat)} {sep out : List Nat} (r : (yLst yStr).rep K H F v xs) (hm : Mi.sJoin sep xs = some out) (k : Q (.str (toS out)) H) : rJoinQ K (.str (toS sep)) [v] H Q := by
  obtain ⟨p, vs, rfl, s, q⟩ := lst_sq r
  obtain rfl := strs_mk q
  unfold Mi.sJoin at hm
  split at hm
  · rename_i hz
    obtain rfl := Option.some.inj hm
    refine ⟨_, p, xs.map toS, rfl, rfl, .inl s, ?_, ?_⟩
    · rw [List.map_map, List.length_map, toS_len]
      have e : ((fun x : Str => x.length) ∘ toS) = fun l : List Nat => l.length := by funext l; exact toS_len l
      rw [e]
      exact Nat.le_trans hz (by decide)
    · have e : Txt.join (toS sep) (xs.map toS) = toS (Mi.joinL sep xs) := by
        rw [TL.join_eq]
        refine toS_of ?_
        refine (TL.tl_join (toS sep) (xs.map toS)).trans ?_
        rw [List.map_map]
        have e2 : (fun x : Str => x.cps.toList) ∘ toS = fun l : List Nat => l := by funext l; exact toS_tl l
        show TL.joinL (toS sep).cps.toList (xs.map ((fun x : Str => x.cps.toList) ∘ toS)) = _
        rw [e2, toS_tl, List.map_id', joinL_eq]
      rw [e]; exact k
  · cases hm
theorem w_m1 {r : V → List V → Hp → VK → Prop} (h : to σ H fun x H1 => (∃ a, x = .str a) ∧ te σ H1 fun y H2 => r x [y] H2 Q) : tM1 r to te σ H Q := h
/-- for c in s -/
theorem w_iStr {R : It → Hp → Prop} (h : te σ H fun v H1 => ∃ x, v = .str x ∧ R (Its x) H1) : iStr te σ H R := h
theorem signs_at {s : List Nat} {n c : Nat} (h : s[n]? = some c) : (Mi.signs s)[n]? = some [c] := by
  unfold Mi.signs
  rw [List.getElem?_map, h]; rfl
theorem signs_len (s : List Nat) : (Mi.signs s).length = s.length := List.length_map ..
theorem l_str {tb : TS} {nx : L2.St → Hp → Prop} (Pv : Nat → L2.St → Hp → Prop) (h0 : Pv 0 σ H)
    (hs : ∀ (i : Nat) (x : List Nat) σ' H', (Mi.signs a)[i]? = some x → Pv i σ' H' → g (.str (toS x)) σ' H' fun σ2 H2 => tb { D with nx := Pv (i + 1), ct := Pv (i + 1), bk := nx } σ2 H2) (hd : ∀ σ' H', Pv (Mi.signs a).length σ' H' → nx σ' H') :
    ∃ x, V.str (toS a) = .str x ∧ LoopG (Its x) g tb D nx σ H := by
  have ez : (toS a).cps.size = a.length := toS_len a
  refine ⟨_, rfl, fun i m σ' H' => m = a.length - i ∧ i ≤ a.length ∧ Pv i σ' H', ⟨a.length, by omega, Nat.zero_le _, h0⟩, ?_⟩
  rintro i m σ' H' ⟨rfl, hi, p⟩
  by_cases hlt : i < a.length
  · refine .inr ⟨by show i < (toS a).cps.size; omega, Pv (i + 1), fun σ2 H2 p' => ⟨a.length - (i + 1), by omega, rfl, hlt, p'⟩, fun x H2 y => ?_⟩
    obtain ⟨rfl, z, hz, rfl⟩ := y
    have hz' : a[i]? = some z := by
      have e : (toS a).cps.toList[i]? = some z := by rw [Array.getElem?_toList]; exact hz
      rw [toS_tl] at e; exact e
    exact hs i [z] σ' _ (signs_at hz') p
  · obtain rfl : i = a.length := by omega
    exact .inl ⟨by show (toS a).cps.size ≤ _; omega, hd σ' H' (by rw [signs_len]; exact p)⟩
theorem kc_str (Pv : Addr → Nat → Hp → Prop) (h0 : ∀ D H', H D = none → Chg [] H H' → (yLst τ).rep K H' [D] (.ref D) [] → Pv D 0 H')
    (hs : ∀ D (i : Nat) (x : List Nat) H', (Mi.signs a)[i]? = some x → Pv D i H' → TurnG g tt te ws σ D (Pv D (i + 1)) (.str (toS x)) H') (hd : ∀ D H', H D = none → Pv D (Mi.signs a).length H' → Q (.ref D) H') :
    ∃ x, V.str (toS a) = .str x ∧ CompG (Its x) g tt te ws σ H Q := by
  have ez : (toS a).cps.size = a.length := toS_len a
  refine ⟨_, rfl, comp_by (K := K) (τ := τ) a.length Pv h0 (fun D i H' hi p => ⟨by show i < (toS a).cps.size; omega, fun x H2 y => ?_⟩) (fun D H' hD p => ⟨by show (toS a).cps.size ≤ _; omega, hd D H' hD (by rw [signs_len]; exact p)⟩)⟩
  obtain ⟨rfl, z, hz, rfl⟩ := y
  have hz' : a[i]? = some z := by
    have e : (toS a).cps.toList[i]? = some z := by rw [Array.getElem?_toList]; exact hz
    rw [toS_tl] at e; exact e
  exact hs D i [z] _ (signs_at hz') p
/-- int of a bool -/
theorem val_intB {b : Bool} (ha : Val ta σ H (.bl b)) : Val (tCB rInt1 (tCons ta tNil)) σ H (.int (Mi.bI b)) := fun Q q => ha _ (.inr ⟨b, rfl, by cases b <;> exact q⟩)
theorem w_intB {b : Bool} (k : Q (.int (Mi.bI b)) H) : rInt1 [.bl b] H Q := .inr ⟨b, rfl, by cases b <;> exact k⟩
/-- isinstance of None or data -/
theorem val_isiO {n m : String} {b : Bool} {d : Option α} (ty : ∀ {F x}, τ.rep K H F v x → TyX K H v (.type n)) (r : (yOpt τ).rep K H F v d) (ha : Val ta σ H v) (h1 : kitB n m = some b) (h2 : kitB "NoneType" m = some false) : Val (tCB (rIsi K) (tCons ta (tCons (tC (.ty m)) tNil))) σ H (.bl (d.isSome && b)) := by
  cases d with
  | none =>
    obtain ⟨_, rfl⟩ := r
    exact val_isi ha ty_non h2
  | some x =>
    have := val_isi ha (ty r.2) h1
    rw [show ((some x).isSome && b) = b by cases b <;> rfl]
    exact this
theorem tyr_int {x : Int} (r : yInt.rep K H F v x) : TyX K H v (.type "int") := by obtain ⟨_, rfl⟩ := r; exact ty_int
theorem tyr_bool {x : Bool} (r : yBool.rep K H F v x) : TyX K H v (.type "bool") := by obtain ⟨_, rfl⟩ := r; exact ty_bl
theorem tyr_str {x : List Nat} (r : yStr.rep K H F v x) : TyX K H v (.type "str") := by obtain ⟨_, rfl⟩ := r; exact ty_str
end
/-! ### data with texts -/
structure DatO {α : Type} (τ : Ty α) (n : Nat) where
  f : α → PyData
  ok : α → Bool
  dec : DecidableEq α
  dp : ∀ {K : PySem.W.Frag} {H : Hp} {F : List Addr} {v : V} {d : α}, τ.rep K H F v d → Dp K H v (f d)
  lay : ∀ d, ok d = true → (f d).canLay0 = true
  dpt : ∀ d, (f d).depth ≤ n
  eqv : ∀ d e, PyData.eqv (f d) (f e) = decide (d = e)
def Dat.o {α : Type} {τ : Ty α} {n : Nat} (d : Dat τ n) : DatO τ n := ⟨d.f, fun _ => true, d.dec, d.dp, fun x _ => d.lay x, d.dpt, d.eqv⟩
def dao_str : DatO yStr 0 where
  f := fun l => .str (toS l)
  ok := Mi.okS
  dec := inferInstance
  dp := fun h => by obtain ⟨_, rfl⟩ := h; exact .str _
  lay := fun d h => by
    have e : (toS d).cps = d.toArray := rfl
    simp only [PyData.canLay0, PyData.strOk, e]
    unfold Mi.okS at h
    simpa using h
  dpt := fun d => by simp [PyData.depth]
  eqv := fun d e => by
    simp only [PyData.eqv]
    rw [beq_dec]
    by_cases h : d = e
    · subst h; simp
    · rw [decide_eq_false h, decide_eq_false]
      intro z; exact h (toS_inj z)
section
variable {α β : Type} {τ : Ty α} {n m : Nat}
theorem layAllO {f : α → PyData} {ok : α → Bool} (h : ∀ d, ok d = true → (f d).canLay0 = true) : ∀ xs : List α, xs.all ok = true → PyData.canLayAll0 (xs.map f) = true
  | [], _ => by simp [PyData.canLayAll0]
  | x :: xs, q => by
    rw [List.all_cons, Bool.and_eq_true] at q
    simp [PyData.canLayAll0, h x q.1, layAllO h xs q.2]
def dao_lst (d : DatO τ n) : DatO (yLst τ) (n + 1) where
  f := fun xs => .list (xs.map d.f)
  ok := fun xs => xs.all d.ok
  dec := @instDecidableEqList _ d.dec
  dp := fun h => by
    obtain ⟨a, vs, rfl, s, q⟩ := lst_sq h
    exact .lst s (dpAll (fun u x z => d.dp z) q)
  lay := fun xs h => by simp only [PyData.canLay0]; exact layAllO d.lay xs h
  dpt := fun xs => by simp only [PyData.depth]; exact Nat.succ_le_succ (dptAll d.dpt xs)
  eqv := fun xs ys => by simp only [PyData.eqv]; exact @eqvAllL _ d.dec _ d.eqv xs ys
def dao_lsg (d : DatO τ n) : DatO (yLsg τ) (n + 1) where
  f := fun xs => .list (xs.map d.f)
  ok := fun xs => xs.all d.ok
  dec := @instDecidableEqList _ d.dec
  dp := fun h => by
    obtain ⟨a, vs, rfl, _, s, q⟩ := lsg_sq h
    exact .lst s (dpAll (fun u x z => by obtain ⟨Fi, ru, _⟩ := z; exact d.dp ru) q)
  lay := fun xs h => by simp only [PyData.canLay0]; exact layAllO d.lay xs h
  dpt := fun xs => by simp only [PyData.depth]; exact Nat.succ_le_succ (dptAll d.dpt xs)
  eqv := fun xs ys => by simp only [PyData.eqv]; exact @eqvAllL _ d.dec _ d.eqv xs ys
def dao_tupl (d : DatO τ n) : DatO (yTupL τ) (n + 1) where
  f := fun xs => .tuple (xs.map d.f)
  ok := fun xs => xs.all d.ok
  dec := @instDecidableEqList _ d.dec
  dp := fun h => by
    obtain ⟨a, vs, rfl, s, q⟩ := tupl_sq h
    exact .tup s (dpAll (fun u x z => d.dp z) q)
  lay := fun xs h => by simp only [PyData.canLay0]; exact layAllO d.lay xs h
  dpt := fun xs => by simp only [PyData.depth]; exact Nat.succ_le_succ (dptAll d.dpt xs)
  eqv := fun xs ys => by simp only [PyData.eqv]; exact @eqvAllL _ d.dec _ d.eqv xs ys
end
structure SatO {α : Type} (ts : Tys α) (n : Nat) where
  f : α → List PyData
  ok : α → Bool
  dec : DecidableEq α
  dp : ∀ {K : PySem.W.Frag} {H : Hp} {F : List Addr} {vs : List V} {d : α}, ts.rep K H F vs d → DpAll K H vs (f d)
  lay : ∀ d, ok d = true → PyData.canLayAll0 (f d) = true
  dpt : ∀ d, PyData.depthAll (f d) ≤ n
  eqv : ∀ d e, PyData.eqvAll (f d) (f e) = decide (d = e)
section
variable {α β : Type} {τ : Ty α} {ts : Tys β} {n m : Nat}
def sao_one (d : DatO τ n) : SatO (sOne τ) n where
  f := fun x => [d.f x]
  ok := d.ok
  dec := d.dec
  dp := fun h => by obtain ⟨v, rfl, r⟩ := h; exact .cons (d.dp r) .nil
  lay := fun x h => by simp [PyData.canLayAll0, d.lay x h]
  dpt := fun x => by simp only [PyData.depthAll]; exact Nat.max_le.mpr ⟨d.dpt x, Nat.zero_le _⟩
  eqv := fun x y => by simp [PyData.eqvAll, d.eqv x y]
def sao_cons (d : DatO τ n) (s : SatO ts m) : SatO (sCons τ ts) (max n m) where
  f := fun x => d.f x.1 :: s.f x.2
  ok := fun x => d.ok x.1 && s.ok x.2
  dec := @instDecidableEqProd _ _ d.dec s.dec
  dp := fun h => by obtain ⟨v, ws, F1, F2, rfl, _, r, q⟩ := h; exact .cons (d.dp r) (s.dp q)
  lay := fun x h => by
    rw [Bool.and_eq_true] at h
    simp [PyData.canLayAll0, d.lay x.1 h.1, s.lay x.2 h.2]
  dpt := fun x => by
    simp only [PyData.depthAll]
    have h1 := d.dpt x.1
    have h2 := s.dpt x.2
    omega
  eqv := fun x y => by
    obtain ⟨x1, x2⟩ := x
    obtain ⟨y1, y2⟩ := y
    letI := d.dec
    letI := s.dec
    simp only [PyData.eqvAll, d.eqv x1 y1, s.eqv x2 y2]
    by_cases h1 : x1 = y1
    · by_cases h2 : x2 = y2
      · subst h1 h2; simp
      · have : ¬ ((x1, x2) = (y1, y2)) := fun e => h2 (Prod.mk.inj e).2
        simp only [h2, decide_false, Bool.and_false]
        exact (decide_eq_false this).symm
    · have : ¬ ((x1, x2) = (y1, y2)) := fun e => h1 (Prod.mk.inj e).1
      simp only [h1, decide_false, Bool.false_and]
      exact (decide_eq_false this).symm
def dao_tup (s : SatO ts m) : DatO (yTup ts) (m + 1) where
  f := fun x => .tuple (s.f x)
  ok := s.ok
  dec := s.dec
  dp := fun h => by obtain ⟨a, vs, rfl, sq, q⟩ := h; exact .tup sq (s.dp q)
  lay := fun x h => by simp only [PyData.canLay0]; exact s.lay x h
  dpt := fun x => by simp only [PyData.depth]; exact Nat.succ_le_succ (s.dpt x)
  eqv := fun x y => by simp only [PyData.eqv]; exact s.eqv x y
theorem DatO.shaped (d : DatO τ n) (hn : n ≤ 64) (x : α) (h : d.ok x = true) : SeqAt.shaped (d.f x) = true := by
  unfold SeqAt.shaped
  rw [d.lay x h, decide_eq_true (Nat.le_trans (d.dpt x) hn)]
  rfl
variable {K : PySem.W.Frag} {H : Hp} {F1 F2 : List Addr} {v u : V} {Q : VK} {x y : α}
theorem okB {a b : Bool} {z : Unit} (h : Mi.guardO (a && b) = some z) : a = true ∧ b = true := by
  unfold Mi.guardO at h
  split at h
  · rename_i q; rw [Bool.and_eq_true] at q; exact q
  · cases h
theorem w_eqO [i : DecidableEq α] {z : Unit} (d : DatO τ n) (r : τ.rep K H F1 v x) (q : τ.rep K H F2 u y) (g : Mi.guardO (d.ok x && d.ok y) = some z) (k : Q (.bl (decide (x = y))) H) (hn : n ≤ 64 := by decide) : rEqD K v u H Q :=
  ⟨_, _, d.dp r, d.dp q, d.shaped hn x (okB g).1, d.shaped hn y (okB g).2, by
    have e : @decide (x = y) (d.dec x y) = @decide (x = y) (i x y) := by congr
    rw [d.eqv, e]; exact k⟩
theorem w_neO [i : DecidableEq α] {z : Unit} (d : DatO τ n) (r : τ.rep K H F1 v x) (q : τ.rep K H F2 u y) (g : Mi.guardO (d.ok x && d.ok y) = some z) (k : Q (.bl (!decide (x = y))) H) (hn : n ≤ 64 := by decide) : rNeD K v u H Q :=
  ⟨_, _, d.dp r, d.dp q, d.shaped hn x (okB g).1, d.shaped hn y (okB g).2, by
    have e : @decide (x = y) (d.dec x y) = @decide (x = y) (i x y) := by congr
    rw [d.eqv, e]; exact k⟩
end
end G

namespace G
open PySem PySem.Spec PyProof.Rows L2
/-! ### a list that owns its items: no two of them share a cell -/
inductive Par3 {α : Type} (R : V → List Addr → α → Prop) : List V → List (List Addr) → List α → Prop
  | nil : Par3 R [] [] []
  | cons {u : V} {Fi : List Addr} {x : α} {vs : List V} {Fs : List (List Addr)} {xs : List α} : R u Fi x → Par3 R vs Fs xs → Par3 R (u :: vs) (Fi :: Fs) (x :: xs)
theorem Par3.mapP {α : Type} {R S : V → List Addr → α → Prop} : ∀ {vs Fs} {xs : List α}, Par3 R vs Fs xs → (∀ u Fi x, Fi ∈ Fs → R u Fi x → S u Fi x) → Par3 S vs Fs xs
  | _, _, _, .nil, _ => .nil
  | _, _, _, .cons r t, h => .cons (h _ _ _ (List.mem_cons_self ..) r) (Par3.mapP t fun u Fi x m => h u Fi x (List.mem_cons_of_mem _ m))
theorem Par3.len {α : Type} {R : V → List Addr → α → Prop} : ∀ {vs Fs} {xs : List α}, Par3 R vs Fs xs → vs.length = xs.length ∧ Fs.length = xs.length
  | _, _, _, .nil => ⟨rfl, rfl⟩
  | _, _, _, .cons r t => by
    have := Par3.len t
    simp [this.1, this.2]
theorem Par3.get {α : Type} {R : V → List Addr → α → Prop} : ∀ {vs Fs} {xs : List α} (_ : Par3 R vs Fs xs) {j : Nat} {x : α}, xs[j]? = some x → ∃ u Fi, vs[j]? = some u ∧ Fs[j]? = some Fi ∧ R u Fi x
  | _, _, _, .nil, j, x, h => by simp at h
  | _, _, _, .cons (u := u) (Fi := Fi) r t, 0, x, h => by
    obtain rfl := Option.some.inj h
    exact ⟨u, Fi, rfl, rfl, r⟩
  | _, _, _, .cons r t, j + 1, x, h => Par3.get t (j := j) h
theorem Par3.pr {α : Type} {R : V → List Addr → α → Prop} {S : V → α → Prop} : ∀ {vs Fs} {xs : List α}, Par3 R vs Fs xs → (∀ u Fi x, Fi ∈ Fs → R u Fi x → S u x) → Paired S vs xs
  | _, _, _, .nil, _ => .nil
  | _, _, _, .cons r t, h => .cons (h _ _ _ (List.mem_cons_self ..) r) (Par3.pr t fun u Fi x m => h u Fi x (List.mem_cons_of_mem _ m))
/-- the j-th item changed, the others apart from what changed -/
theorem Par3.setAt {α : Type} {R S : V → List Addr → α → Prop} : ∀ {vs Fs} {xs : List α} (_ : Par3 R vs Fs xs) {j : Nat} {u : V} {Fi : List Addr} {y : α}, vs[j]? = some u → Fs[j]? = some Fi → S u Fi y → (∀ (k : Nat) u' Fk x, k ≠ j → Fs[k]? = some Fk → R u' Fk x → S u' Fk x) → Par3 S vs Fs (xs.set j y)
  | _, _, _, .nil, j, u, Fi, y, h, _, _, _ => by simp at h
  | _, _, _, .cons r t, 0, u, Fi, y, h1, h2, hs, ho => by
    obtain rfl := Option.some.inj h1
    obtain rfl := Option.some.inj h2
    refine .cons hs (Par3.mapP' t fun k u' Fk x hk hr => ho (k + 1) u' Fk x (by omega) hk hr)
  | _, _, _, .cons (u := u0) (Fi := F0) r t, j + 1, u, Fi, y, h1, h2, hs, ho => .cons (ho 0 _ _ _ (by omega) rfl r) (Par3.setAt t (j := j) h1 h2 hs fun k u' Fk x hk hf hr => ho (k + 1) u' Fk x (by omega) hf hr)
where
  Par3.mapP' {α : Type} {R S : V → List Addr → α → Prop} : ∀ {vs Fs} {xs : List α}, Par3 R vs Fs xs → (∀ (k : Nat) u Fk x, Fs[k]? = some Fk → R u Fk x → S u Fk x) → Par3 S vs Fs xs
  | _, _, _, .nil, _ => .nil
  | _, _, _, .cons r t, h => .cons (h 0 _ _ _ rfl r) (Par3.mapP' t fun k u Fk x hk => h (k + 1) u Fk x hk)
def yOwn {α : Type} (τ : Ty α) : Ty (List α) where
  rep K H F v xs := ∃ a vs Fs, v = .ref a ∧ F = a :: Fs.flatten ∧ (a :: Fs.flatten).Nodup ∧ H a = some (.lst vs) ∧ Par3 (fun u Fi x => τ.rep K H Fi u x) vs Fs xs
  keep {K H H' F v xs} h k := by
    obtain ⟨a, vs, Fs, e, rfl, nd, g, r⟩ := h
    exact ⟨a, vs, Fs, e, rfl, nd, k a _ g (.inl (List.mem_cons_self ..)), Par3.mapP r fun u Fi x m q => τ.keep q fun b o hb z => k b o hb (z.imp (fun y => List.mem_cons_of_mem _ (List.mem_flatten.mpr ⟨Fi, m, y⟩)) id)⟩
  dom {K H F v xs} h b m := by
    obtain ⟨a, vs, Fs, e, rfl, nd, g, r⟩ := h
    rcases List.mem_cons.mp m with rfl | m
    · exact ⟨_, g, fun z => z⟩
    · obtain ⟨Fi, hF, hb⟩ := List.mem_flatten.mp m
      obtain ⟨j, hj⟩ := List.getElem?_of_mem hF
      have hl := Par3.len r
      have hjl : j < xs.length := by
        have := (List.getElem?_eq_some_iff.mp hj).1
        omega
      obtain ⟨u, F', _, hF', ru⟩ := Par3.get r (List.getElem?_eq_getElem hjl)
      rw [hj] at hF'
      obtain rfl := Option.some.inj hF'
      exact τ.dom ru b hb
section
variable {K : PySem.W.Frag} {σ σ' : L2.St} {H : Hp} {F F1 F2 Fu : List Addr} {ta tb te : TE} {v u x y : V} {i j : Int} {α β : Type} {τ : Ty α} {υ : Ty β} {Q : VK}
theorem own_lsg {xs : List α} (r : (yOwn τ).rep K H F v xs) : (yLsg τ).rep K H F v xs := by
  have hd := (yOwn τ).dom r
  obtain ⟨a, vs, Fs, e, rfl, nd, g, q⟩ := r
  exact ⟨a, vs, Fs.flatten, e, rfl, (List.nodup_cons.mp nd).1, g, fun b hb => hd b (List.mem_cons_of_mem _ hb), Par3.pr q fun u Fi x m ru => ⟨Fi, ru, fun b hb => List.mem_flatten.mpr ⟨Fi, m, hb⟩⟩⟩
theorem own_nil {p : Addr} {υ : Ty β} (r : (yLst υ).rep K H [p] (.ref p) []) : (yOwn τ).rep K H [p] (.ref p) [] := by
  obtain ⟨a, vs, e, f, g, q⟩ := r
  obtain rfl := V.ref.inj e
  cases q
  exact ⟨p, [], [], rfl, rfl, List.nodup_cons.mpr ⟨List.not_mem_nil, List.nodup_nil⟩, g, .nil⟩
theorem Par3.snoc {R : V → List Addr → α → Prop} {u : V} {Fi : List Addr} {x : α} : ∀ {vs Fs} {xs : List α}, Par3 R vs Fs xs → R u Fi x → Par3 R (vs ++ [u]) (Fs ++ [Fi]) (xs ++ [x])
  | _, _, _, .nil, h => .cons h .nil
  | _, _, _, .cons r t, h => .cons r (Par3.snoc t h)
/-- an item goes in, with cells of its own -/
theorem m_appO {xs ys : List α} {d : α} (r : (yOwn τ).rep K H F v xs) (ru : τ.rep K H Fu u d) (dj : Dj F Fu) (nu : Fu.Nodup) (hm : Mi.app xs d = some ys)
    (k : ∀ H' F', Chg F H H' → (yOwn τ).rep K H' F' v ys → Sub F F' → Sub F' (F ++ Fu) → Q .non H') : rAppend v [u] H Q := by
  obtain ⟨p, vs, Fs, rfl, rfl, nd, g, q⟩ := r
  have np : p ∉ Fu := dj p (List.mem_cons_self ..)
  have hpf := (List.nodup_cons.mp nd).1
  unfold Mi.app at hm
  split at hm
  · rename_i hz
    cases hm
    have c : Chg [p] H (upd H p (.lst (vs ++ [u]))) := Chg.wr g (fun z => z)
    have kp : ∀ {γ : Type} {ρ : Ty γ} {Fi : List Addr} {w : V} {e : γ}, ρ.rep K H Fi w e → p ∉ Fi → ρ.rep K (upd H p (.lst (vs ++ [u]))) Fi w e := fun rr hn => Ty.chg rr c fun b hb z => by
      rw [List.mem_singleton] at z; subst z; exact hn hb
    have ef : (Fs ++ [Fu]).flatten = Fs.flatten ++ Fu := by simp
    refine ⟨p, vs, u, rfl, rfl, g, Nat.lt_of_lt_of_le (by rw [(Par3.len q).1]; exact hz) line_big, k _ (p :: (Fs ++ [Fu]).flatten) (c.mono fun b hb => by rw [List.mem_singleton] at hb; subst hb; exact List.mem_cons_self ..) ⟨p, _, Fs ++ [Fu], rfl, rfl, ?_, upd_same, Par3.snoc (Par3.mapP q fun w Fi e m z => kp z fun hp => hpf (List.mem_flatten.mpr ⟨Fi, m, hp⟩)) (kp ru np)⟩ ?_ ?_⟩
    · rw [ef]
      refine List.nodup_cons.mpr ⟨fun hp => (List.mem_append.mp hp).elim hpf np, List.nodup_append.mpr ⟨(List.nodup_cons.mp nd).2, nu, fun b hb b' hb' e => ?_⟩⟩
      subst e
      exact dj b (List.mem_cons_of_mem _ hb) hb'
    · intro b hb
      rw [ef]
      rcases List.mem_cons.mp hb with rfl | hb
      · exact List.mem_cons_self ..
      · exact List.mem_cons_of_mem _ (List.mem_append_left _ hb)
    · intro b hb
      rw [ef] at hb
      rcases List.mem_cons.mp hb with rfl | hb
      · exact List.mem_append_left _ (List.mem_cons_self ..)
      · rcases List.mem_append.mp hb with hb | hb
        · exact List.mem_append_left _ (List.mem_cons_of_mem _ hb)
        · exact List.mem_append_right _ hb
  · cases hm
theorem e_appO {D : Addr} {N : Hp → Prop} {xs ys : List α} {d : α} (r : (yOwn τ).rep K H F (.ref D) xs) (ru : τ.rep K H Fu u d) (dj : Dj F Fu) (nu : Fu.Nodup) (hm : Mi.app xs d = some ys)
    (k : ∀ H' F', Chg F H H' → (yOwn τ).rep K H' F' (.ref D) ys → Sub F F' → Sub F' (F ++ Fu) → N H') : AppG D N u H := by
  have h := m_appO (Q := fun _ H' => N H') r ru dj nu hm k
  obtain ⟨l, xs', y, e, e2, g, hz, q⟩ := h
  obtain rfl := V.ref.inj e
  obtain rfl : u = y := by simpa using e2
  exact ⟨xs', g, hz, q⟩
theorem lst_nd {xs : List α} (r : (yLst τ).rep K H F v xs) : F.Nodup := by
  obtain ⟨a, vs, _, rfl, _⟩ := r
  exact List.nodup_cons.mpr ⟨List.not_mem_nil, List.nodup_nil⟩
theorem own_nd {xs : List α} (r : (yOwn τ).rep K H F v xs) : F.Nodup := by
  obtain ⟨a, vs, Fs, _, rfl, nd, _⟩ := r
  exact nd
theorem flat_apart {Fs : List (List Addr)} (nd : Fs.flatten.Nodup) {j k : Nat} {A B : List Addr} (hj : Fs[j]? = some A) (hk : Fs[k]? = some B) (hne : k ≠ j) {b : Addr} (h1 : b ∈ A) : b ∉ B := by
  induction Fs generalizing j k with
  | nil => simp at hj
  | cons G Fs ih =>
    rw [List.flatten_cons, List.nodup_append] at nd
    match j, k with
    | 0, 0 => omega
    | 0, k + 1 =>
      obtain rfl := Option.some.inj hj
      exact fun h2 => nd.2.2 b h1 b (List.mem_flatten.mpr ⟨B, List.mem_of_getElem? (show Fs[k]? = some B from hk), h2⟩) rfl
    | j + 1, 0 =>
      obtain rfl := Option.some.inj hk
      exact fun h2 => nd.2.2 b h2 b (List.mem_flatten.mpr ⟨A, List.mem_of_getElem? (show Fs[j]? = some A from hj), h1⟩) rfl
    | j + 1, k + 1 => exact ih nd.2.1 (j := j) (k := k) hj hk (by omega)
/-- an item that changes in place -/
theorem itm_O {xs : List (List β)} {x : List β} (r : (yOwn (yLst υ)).rep K H F v xs) (h : Mi.at_ xs i = some x) :
    ∃ u, tyV K "list" u H ∧ (∀ {Q : VK}, Q u H → rIxL K v (.int i) H Q) ∧ (∀ {σ : L2.St} {ta tb : TE}, Val ta σ H v → Val tb σ H (.int i) → Val (tOp (rIxL K) ta tb) σ H u) ∧
      ∀ {e : V} {d : β} {ys : List (List β)} {Q : VK}, υ.rep K H [] e d → Mi.appIn xs i d = some ys → (∀ H', Chg F H H' → (yOwn (yLst υ)).rep K H' F v ys → Q .non H') → rAppend u [e] H Q := by
  obtain ⟨a, vs, Fs, rfl, rfl, nd, g, q⟩ := r
  have hl := (Par3.len q).1
  unfold Mi.at_ at h
  obtain ⟨n, hn, hx⟩ := Mi.bnd h
  obtain ⟨u, Fi, hu, hF, ru⟩ := Par3.get q hx
  have hat : atI vs i = some u := by
    show (L2.ixN vs.length i).bind _ = _
    have e : L2.ixN vs.length i = some n := by rw [hl]; exact hn
    rw [e]; exact hu
  have k : ∀ {Q : VK}, Q u H → rIxL K (.ref a) (.int i) H Q := fun z => ⟨a, vs, i, u, rfl, rfl, .inl (.inl g), hat, z⟩
  refine ⟨u, tyv_lst ru, k, fun ha hb => val_op ha hb fun Q z => k z, fun {e d ys Q} re hm z => ?_⟩
  unfold Mi.appIn at hm
  obtain ⟨n', hn', hm⟩ := Mi.bnd hm
  obtain rfl : n = n' := Option.some.inj (hn.symm.trans hn')
  obtain ⟨row, hrow, hm⟩ := Mi.bnd hm
  obtain rfl : x = row := Option.some.inj (hx.symm.trans hrow)
  obtain ⟨zs, hz, hm⟩ := Mi.bnd hm
  obtain rfl := Option.some.inj hm
  refine m_app ru re hz fun H' c r' => z H' (c.mono fun b hb => List.mem_cons_of_mem _ (List.mem_flatten.mpr ⟨Fi, List.mem_of_getElem? hF, hb⟩)) ⟨a, vs, Fs, rfl, rfl, nd, ?_, Par3.setAt q hu hF r' fun m u' Fk x' hm' hFk rk => Ty.chg rk c fun b hb hb2 => ?_⟩
  · have ha : a ∉ Fi := fun hb => (List.nodup_cons.mp nd).1 (List.mem_flatten.mpr ⟨Fi, List.mem_of_getElem? hF, hb⟩)
    exact c.keep a _ g (.inl ha)
  · exact flat_apart (List.nodup_cons.mp nd).2 hF hFk hm' hb2 hb
end
end G

/-! ### sets of tuples of ints, up to 75 of them: asked for and added to -/
namespace L2
open PySem PySem.Spec PyProof.Rows
section
variable {P : Program} {w : World} {A : Around} {E : Value → Shared → Prop} {s : Shared} {a : Addr} {L : List (Addr × List Int)} {es : Array (Int × Value)} {ep : Nat} {t : SetTable}
structure SetB (P : Program) (w : World) (h : Heap) (a : Addr) (L : List (Addr × List Int)) (es : Array (Int × Value)) (ep : Nat) (t : SetTable) : Prop where
  obj : ∃ o, h.get? a = some o ∧ o.ExactSet ∧ o.data = .set es ep t
  rws : es.toList = rowsOf P w L
  tb : TabOk t (L.map fun p => thash P w p.2)
  ndp : (L.map (·.2)).Nodup
  tps : ∀ p ∈ L, IsT P w h p.2 p.1
  pln : t.plain = true
  ld : w.params.followText "set-order" = true ∨ t.led = true
  rm : L.length * 5 < t.mask * 3
theorem SetB.of {h : Heap} (R : SetTR P w h a L es ep t) : SetB P w h a L es ep t := ⟨R.ob, R.rows, R.tab, R.nd, R.tup, R.plain, R.led, R.room⟩
theorem SetB.small {h : Heap} (R : SetB P w h a L es ep t) (hl : L.length < 64) : SetTR P w h a L es ep t := ⟨R.obj, R.rws, R.tb, R.ndp, R.tps, R.pln, R.ld, R.rm, hl⟩
theorem SetB.sz {h : Heap} (R : SetB P w h a L es ep t) : es.size = L.length := by
  have z := congrArg List.length R.rws
  simpa [rowsOf] using z
theorem SetB.ft {h : Heap} (R : SetB P w h a L es ep t) : t.fits es.size = true := by
  have z1 := R.tb.sz
  have z2 := R.sz
  have z3 := R.rm
  rw [List.length_map] at z1
  simp only [SetTable.fits, SetTable.fill, R.tb.dm, Bool.and_eq_true, beq_iff_eq, decide_eq_true_eq]
  refine ⟨by omega, ?_⟩
  show t.place.size + 0 ≤ t.mask
  omega
theorem SetB.ent {h : Heap} (R : SetB P w h a L es ep t) {i : Nat} {p : Addr × List Int} (hp : L[i]? = some p) : es[i]? = some (thash P w p.2, Value.ref p.1) := by
  have z : es.toList[i]? = some (thash P w p.2, Value.ref p.1) := by
    rw [R.rws, rowsOf, List.getElem?_map, hp]; rfl
  rw [Array.getElem?_toList] at z; exact z
theorem SetB.noGive {h : Heap} (R : SetB P w h a L es ep t) : ¬ t.gaveWay = true := by
  rw [SetTable.gaveWay, mask_odd R.tb.mok]; decide
abbrev wy (P : Program) (w : World) (t : SetTable) (k : List Int) (c : Nat) : Nat := way t.mask (thash P w k) c
abbrev stp (P : Program) (w : World) (t : SetTable) (k : List Int) (c : Nat) : SetTable.Probe := nth t.mask (runAt t.mask (SetTable.bits (thash P w k) % (t.mask + 1)) (SetTable.bits (thash P w k))) c
theorem nth_dm (m : Nat) : ∀ (n : Nat) (p : SetTable.Probe), p.dummy = none → (nth m p n).dummy = none
  | 0, _, h => h
  | n + 1, p, h => nth_dm m n (adv m p) (by unfold adv; split <;> exact h)
/-- the search, asked by a question or by an adding (ad) -/
theorem SetB.srch (R : SetB P w s.heap a L es ep t) {x : Addr} {k : List Int} (hx : IsT P w s.heap k x) (hu : A.units < cLine) (ad : Bool) {K : Nat} (hKf : K < 10 * SetTable.turns t.mask)
    (hK : wy P w t k K ∉ t.place.toList) (hKb : ∀ c, c < K → wy P w t k c ∈ t.place.toList) {Q : SetFound → Shared → Prop}
    (yes : k ∈ L.map (·.2) → ∀ r : Option Nat, (ad = false → r.isSome = true) → Q (.there r) s) (no : k ∉ L.map (·.2) → Q (.free (wy P w t k K) false) s) :
    ∀ (f c : Nat) (st : Option SetTable.Probe), st.getD (t.probeStart (thash P w k)) = stp P w t k c → c ≤ K → K - c < f →
      (∀ (i : Nat) p, L[i]? = some p → p.2 = k → ∃ c', c ≤ c' ∧ c' < K ∧ t.place.toList[i]? = some (wy P w t k c')) → wpAny (model P w) A (setSearchFrom a (.ref x) (thash P w k) ad f st) Q E s := by
  intro f
  induction f with
  | zero => intro c st _ _ hf _; exact absurd hf (Nat.not_lt_zero _)
  | succ f ih =>
    intro c st hst hc hf hre
    obtain ⟨o, ho, hex, hd⟩ := R.obj
    rw [setSearchFrom_succ]
    refine wpAny_bind (wpAny_setState_of ho hd R.ft ?_)
    dsimp only
    refine wp_if_neg R.noGive ?_
    try refine wpAny_bind (wpAny_pure ?_)
    have sh : ∀ q, nth t.mask (stp P w t k c) q = stp P w t k (c + q) := fun q => (nth_add t.mask c _ q).symm
    have ej : ∀ q, (nth t.mask (stp P w t k c) q).j = wy P w t k (c + q) := fun q => congrArg SetTable.Probe.j (sh q)
    have eK : c + (K - c) = K := by omega
    have hh : ∀ (i : Nat) p, L[i]? = some p → (fun i => (es[i]?.map (·.1)).getD 0) i = thash P w p.2 := fun i p hp => by
      show (es[i]?.map (·.1)).getD 0 = _
      rw [R.ent hp]; rfl
    have spec := go_spec t R.tb.ris R.tb.dm (fun i => (es[i]?.map (·.1)).getD 0) (thash P w k) (10 * SetTable.turns t.mask) (K - c) (stp P w t k c) (nth_dm _ _ _ rfl) (by omega) (fun q hq => by rw [ej]; exact hKb (c + q) (by omega)) (by rw [ej, eK]; exact hK)
    rcases spec with ⟨q, i, hq, hi, _, hno, hpr⟩ | ⟨hno, hpr⟩
    · have hp1 : t.probe (fun i => (es[i]?.map (·.1)).getD 0) (thash P w k) (st.getD (t.probeStart (thash P w k))) = some (.candidate (wy P w t k (c + q)) i (stp P w t k (c + (q + 1)))) := by
        rw [hst, ← ej, ← sh]; exact hpr
      rw [hp1]
      dsimp only
      rw [ej] at hi
      have hil : i < L.length := by
        have z1 : i < t.place.toList.length := (List.getElem?_eq_some_iff.mp hi).1
        have z2 := R.tb.sz
        rw [List.length_map] at z2
        rw [Array.length_toList] at z1
        omega
      obtain ⟨p, hp⟩ : ∃ p, L[i]? = some p := ⟨L[i], List.getElem?_eq_getElem hil⟩
      have hm := List.mem_of_getElem? hp
      have hsl : t.slot (wy P w t k (c + q)) = .live i := slot_live R.tb.ris hi
      have more : wpAny (model P w) A (searchRest a (.ref x) (thash P w k) ad f es t (wy P w t k (c + q)) i (stp P w t k (c + (q + 1)))) Q E s := by
        unfold searchRest
        rw [R.ent hp]
        dsimp only
        refine wpAny_bind (wpAny_holding (wpAny_eqBool_tuple hu (R.tps p hm) hx ?_))
        refine wpAny_bind (wpAny_setState_of ho hd R.ft ?_)
        dsimp only
        by_cases hkk : p.2 = k
        · have hin := List.mem_map.mpr ⟨p, hm, hkk⟩
          cases ad with
          | true =>
            refine wp_if_pos (by simp [hkk]) ?_
            exact wpAny_pure (yes hin none fun z => by cases z)
          | false =>
            refine wp_if_neg (by simp) ?_
            try refine wpAny_bind (wpAny_pure ?_)
            rw [sameMem]
            dsimp only
            simp only [if_true, hsl, R.ent hp]
            refine wpAny_bind (wpAny_isSame_ref_self (wpAny_bind (wpAny_pure ?_)))
            simp only [if_true]
            refine wp_if_pos (by simp [hkk]) ?_
            exact wpAny_pure (yes hin (some i) fun _ => rfl)
        · refine wp_if_neg (by simp [hkk]) ?_
          try refine wpAny_bind (wpAny_pure ?_)
          rw [sameMem]
          dsimp only
          simp only [if_true, hsl, R.ent hp]
          refine wpAny_bind (wpAny_isSame_ref_self (wpAny_bind (wpAny_pure ?_)))
          simp only [if_true]
          refine wp_if_neg (by simp [hkk]) ?_
          refine ih (c + (q + 1)) _ rfl (by omega) (by omega) fun i0 p0 h0 hk0 => ?_
          obtain ⟨c', a1, a2, a3⟩ := hre i0 p0 h0 hk0
          refine ⟨c', ?_, a2, a3⟩
          rcases Nat.lt_or_ge c' (c + (q + 1)) with z | z
          · exfalso
            rcases Nat.lt_or_ge c' (c + q) with z2 | z2
            · exact hno (c' - c) i0 (by omega) (by rw [ej, show c + (c' - c) = c' by omega]; exact a3) ((hh i0 p0 h0).trans (congrArg (thash P w) hk0))
            · obtain rfl : c' = c + q := by omega
              have s0 := slot_live R.tb.ris a3
              rw [hsl] at s0
              injection s0 with s0
              rw [← s0, hp] at h0
              exact hkk ((congrArg Prod.snd (Option.some.inj h0)).trans hk0)
          · exact z
      by_cases hl : t.led = true
      · refine wp_if_neg (by simp [hl]) ?_
        try refine wpAny_bind (wpAny_pure ?_)
        exact more
      · refine wp_if_pos (by simp [hl]) ?_
        refine wpAny_bind (seen_tup hx (fun y hy => ?_) ?_)
        · obtain ⟨e, he, ee⟩ := List.mem_map.mp hy
          have he2 : e ∈ es.toList := by
            have z : e ∈ es ∧ e.1 = thash P w k := by simpa using he
            simpa using z.1
          rw [R.rws] at he2
          obtain ⟨p2, hp2, e2⟩ := List.mem_map.mp he2
          exact ⟨p2.2, p2.1, by rw [← ee, ← e2], R.tps p2 hp2⟩
        · refine wp_if_neg (by decide) ?_
          try refine wpAny_bind (wpAny_pure ?_)
          exact more
    · have hp1 : t.probe (fun i => (es[i]?.map (·.1)).getD 0) (thash P w k) (st.getD (t.probeStart (thash P w k))) = some (.empty (wy P w t k K) none) := by
        have e2 : wy P w t k K = (nth t.mask (stp P w t k c) (K - c)).j := by rw [ej, eK]
        rw [hst, e2]; exact hpr
      rw [hp1]
      dsimp only
      refine wpAny_pure (no fun hm => ?_)
      obtain ⟨p0, h0, hk0⟩ := List.mem_map.mp hm
      obtain ⟨i0, h00⟩ := List.getElem?_of_mem h0
      obtain ⟨c', a1, a2, a3⟩ := hre i0 p0 h00 hk0
      exact hno (c' - c) i0 (by omega) (by rw [ej, show c + (c' - c) = c' by omega]; exact a3) ((hh i0 p0 h00).trans (congrArg (thash P w) hk0))
theorem SetB.search (R : SetB P w s.heap a L es ep t) {x : Addr} {k : List Int} (hx : IsT P w s.heap k x) (hu : A.units < cLine) (ad : Bool) {Q : SetFound → Shared → Prop}
    (yes : k ∈ L.map (·.2) → ∀ r : Option Nat, (ad = false → r.isSome = true) → Q (.there r) s)
    (no : ∀ K, k ∉ L.map (·.2) → wy P w t k K ∉ t.place.toList → (∀ c, c < K → wy P w t k c ∈ t.place.toList) → Q (.free (wy P w t k K) false) s) : wpAny (model P w) A (setSearch a (.ref x) (thash P w k) ad) Q E s := by
  have hr := R.rm
  obtain ⟨K, hKf, hK, hKb⟩ := R.tb.first (by rw [List.length_map]; omega) (thash P w k)
  have hbig : K < 100000 := by
    have : 10 * SetTable.turns t.mask ≤ 1420 := by
      unfold SetTable.turns
      rcases R.tb.mok with e | e | e <;> omega
    omega
  unfold setSearch
  refine R.srch hx hu ad hKf hK hKb yes (fun hn => no K hn hK hKb) 100000 0 none rfl (Nat.zero_le _) (by omega) fun i p hp hk => ?_
  have hi : (L.map fun p => thash P w p.2)[i]? = some (thash P w k) := by rw [List.getElem?_map, hp, ← hk]; rfl
  have hil : i < t.place.toList.length := by
    have z1 : i < L.length := (List.getElem?_eq_some_iff.mp hp).1
    have z2 := R.tb.sz
    rw [List.length_map] at z2
    rw [Array.length_toList]; omega
  have hj := List.getElem?_eq_getElem hil
  obtain ⟨c, hc, e⟩ := R.tb.before hK hi hj
  exact ⟨c, Nat.zero_le _, hc, hj.trans (congrArg some e.symm)⟩
/-- adding to a table that has room for 128 -/
theorem SetB.addBig (R : SetB P w s.heap a L es ep t) {x : Addr} {k : List Int} (hx : IsT P w s.heap k x) (hu : A.units < cLine) (hm7 : t.mask = 127) (hfew : L.length + 1 < 76) {Q : Bool → Shared → Prop}
    (hQ : ∀ b h' L' es' ep' t', Heap.SameBut a s.heap h' → SetB P w h' a L' es' ep' t' → (k ∈ L.map (·.2) → L' = L) → (k ∉ L.map (·.2) → L'.Perm ((x, k) :: L)) → Q b { s with heap := h' }) :
    wpAny (model P w) A (setAddHashed a (.ref x) (thash P w k)) Q E s := by
  obtain ⟨o, ho, hex, hd⟩ := R.obj
  have hsl := R.sz
  unfold setAddHashed
  refine wpAny_holding ?_
  rw [show (100000 : Nat) = 99999 + 1 from rfl, setAddHashedIn_succ]
  refine wpAny_bind (wpAny_setState_of ho hd R.ft ?_)
  dsimp only
  refine wp_if_neg (by simp [byScan, Value.scannable]) ?_
  try refine wpAny_bind (wpAny_pure ?_)
  refine wpAny_bind (R.search hx hu true (fun hm r _ => ?_) fun K hm hK hb => ?_)
  · dsimp only
    exact wpAny_pure (hQ false s.heap L es ep t (Heap.SameBut.refl a s.heap) R (fun _ => rfl) fun z => absurd hm z)
  · dsimp only
    refine wpAny_bind (wpAny_setState_of ho hd R.ft ?_)
    dsimp only
    obtain ⟨q1, q2, q3, q4, q5, q6, q7, q8, q9⟩ := R.tb.put hK hb
    have hp1 : (t.put (wy P w t k K)).1.plain = true := by rw [q6]; exact R.pln
    generalize hpt : t.put (wy P w t k K) = pt at q1 q3 q4 q5 q6 q7 q8 q9 hp1 ⊢
    obtain ⟨t1, p⟩ := pt
    dsimp only at q1 q3 q4 q5 q6 q7 q8 q9 hp1 ⊢
    subst q1
    first
      | (refine wpAny_bind ?_; refine wp_if_pos hp1 ?_; refine hashBy_tup hx ?_)
      | refine wp_if_pos hp1 (wpAny_bind (hashBy_tup hx ?_))
    simp only [if_true]
    have hin : (SetTable.insertAt es (SetTable.below t.place (wy P w t k K)) (thash P w k, Value.ref x)).toList = rowsOf P w (L.take (SetTable.below t.place (wy P w t k K)) ++ (x, k) :: L.drop (SetTable.below t.place (wy P w t k K))) := by
      rw [SetTable.toList_insertAt, rows_put, R.rws]
    generalize hpp : SetTable.below t.place (wy P w t k K) = p at q2 q3 hin ⊢
    have pm := put_perm L p (x, k)
    have hlen : (L.take p ++ (x, k) :: L.drop p).length = L.length + 1 := pm.length_eq
    have hhs : (L.take p ++ (x, k) :: L.drop p).map (fun p => thash P w p.2) = (L.map fun p => thash P w p.2).take p ++ thash P w k :: (L.map fun p => thash P w p.2).drop p := by
      rw [List.map_append, List.map_cons, List.map_take, List.map_drop]
    rw [← hhs] at q3
    have nd1 : ((L.take p ++ (x, k) :: L.drop p).map (·.2)).Nodup := (pm.map (·.2)).nodup_iff.mpr (List.nodup_cons.mpr ⟨hm, R.ndp⟩)
    have hes : (SetTable.insertAt es p (thash P w k, Value.ref x)).size = L.length + 1 := by
      have z := congrArg List.length hin
      rw [rowsOf, Array.length_toList, List.length_map, hlen] at z
      exact z
    generalize SetTable.insertAt es p (thash P w k, Value.ref x) = es1 at hin hes ⊢
    generalize L.take p ++ (x, k) :: L.drop p = L1 at pm hlen q3 nd1 hin
    refine wpAny_bind (wpAny_storeSet_of ho hd ?_ (by rw [hes, sizeLine_eq]; omega))
    have sb : Heap.SameBut a s.heap (s.heap.update a (Obj.putSet es1 t1)) := Heap.SameBut.update ..
    have ho1 := store_at (es' := es1) (t' := t1) ho hd
    generalize s.heap.update a (Obj.putSet es1 t1) = h1 at sb ho1 ⊢
    have tup1 : ∀ p ∈ L1, IsT P w h1 p.2 p.1 := fun p hp => by
      rcases List.mem_cons.mp (pm.mem_iff.mp hp) with e | hp
      · rw [e]; exact isT_same hx ho hd sb
      · exact isT_same (R.tps p hp) ho hd sb
    have hf : ¬ t1.tooFull = true := fun z => by
      unfold SetTable.tooFull at z
      rw [decide_eq_true_eq, q9, List.length_map, q4, hm7] at z
      omega
    first
      | refine wp_if_neg (by simp [hf]) ?_
      | (refine wpAny_bind ?_; refine wp_if_neg (by simp [hf]) ?_; refine wpAny_pure ?_)
    refine wpAny_pure (hQ true h1 L1 es1 (ep + 1) t1 sb ⟨⟨_, ho1, ⟨hex.1, hex.2.1, hex.2.2⟩, rfl⟩, hin, q3, nd1, tup1, hp1, by rw [q5]; exact R.ld, ?_⟩ (fun z => absurd z hm) fun _ => pm)
    rw [hlen, q4, hm7]; omega
theorem SetB.add (R : SetB P w s.heap a L es ep t) {x : Addr} {k : List Int} (hx : IsT P w s.heap k x) (hu : A.units < cLine) (hfew : L.length + 1 < 76) {Q : Bool → Shared → Prop}
    (hQ : ∀ b h' L' es' ep' t', Heap.SameBut a s.heap h' → SetB P w h' a L' es' ep' t' → (k ∈ L.map (·.2) → L' = L) → (k ∉ L.map (·.2) → L'.Perm ((x, k) :: L)) → Q b { s with heap := h' }) :
    wpAny (model P w) A (setAddHashed a (.ref x) (thash P w k)) Q E s := by
  by_cases h : L.length + 1 < 64
  · exact add_at (R.small (by omega)) hx hu h fun b h' L' es' ep' t' sb R' => hQ b h' L' es' ep' t' sb (.of R')
  · refine R.addBig hx hu ?_ hfew hQ
    have z := R.rm
    rcases R.tb.mok with e | e | e <;> omega
end
end L2

namespace L2
open PySem PySem.Spec PyProof.Rows
structure SetB0 (P : Program) (w : World) (h : Heap) (a : Addr) (L : List (Addr × List Int)) : Prop where
  has : ∃ (es : Array (Int × Value)) (ep : Nat) (t : SetTable), (∃ o, h.get? a = some o ∧ o.ExactSet ∧ o.data = .set es ep t) ∧ es.toList = rowsOf P w L ∧ TabOk t (L.map fun p => thash P w p.2) ∧ (L.map (·.2)).Nodup ∧ t.plain = true ∧
    (w.params.followText "set-order" = true ∨ t.led = true) ∧ L.length * 5 < t.mask * 3
def SetBO (P : Program) (w : World) (a : Addr) (L : List (Addr × List Int)) : HO := .ext fun h => SetB0 P w h a L
section
variable {P : Program} {w : World} {h : Heap} {a : Addr} {L : List (Addr × List Int)} {es : Array (Int × Value)} {ep : Nat} {t : SetTable}
theorem SetB.bare (R : SetB P w h a L es ep t) : SetB0 P w h a L := ⟨es, ep, t, R.obj, R.rws, R.tb, R.ndp, R.pln, R.ld, R.rm⟩
theorem SetB0.whole (R : SetB0 P w h a L) (ht : ∀ p ∈ L, IsT P w h p.2 p.1) : ∃ es ep t, SetB P w h a L es ep t := by
  obtain ⟨es, ep, t, x1, x2, x3, x4, x5, x6, x7⟩ := R.has
  exact ⟨es, ep, t, x1, x2, x3, x4, ht, x5, x6, x7⟩
theorem setBO_new {H : Hp} (R : SetB0 P w h a L) : ObjOk P w H h a (SetBO P w a L) := by
  have ⟨es, ep, t, ⟨o, ho, _⟩, _⟩ := R.has
  refine ⟨R, ⟨o, ho⟩, fun g1 g2 p k => ?_⟩
  obtain ⟨es', ep', t', ⟨o', ho', r'⟩, q'⟩ := SetB0.has p
  exact ⟨es', ep', t', ⟨o', k o' ho', r'⟩, q'⟩
end
section
variable {X : Cx}
theorem setBO_get {pins : List (Addr × Obj)} {σ : St} {H : Hp} {s : Shared} {a : Addr} {L : List (Addr × List Int)} (I : Inv X pins σ H s) (ha : H a = some (SetBO X.prog X.w a L)) (ht : ∀ p ∈ L, SqT X.K H p.1 (p.2.map V.int)) : ∃ es ep t, SetB X.prog X.w s.heap a L es ep t :=
  SetB0.whole (I.hok a _ ha).1 fun p hp => I.isT (ht p hp)
/-- set() -/
def rSetB0 (P : Program) (w : World) : List V → Hp → VK → Prop := fun xs H Q => xs = [] ∧ ∀ p, H p = none → Q (.ref p) (upd H p (SetBO P w p []))
theorem cr_setB0 : CallR X (.type "set") (rSetB0 X.prog X.w) := by
  intro pins s σ H xs us Q I r h
  obtain ⟨rfl, q⟩ := h
  cases r
  refine setR_new fun _ => ?_
  have nw := (SetB.of (setTR_fresh (P := X.prog) (w := X.w) (h := s.heap.push { cls := .type "set", dict := none, data := .set #[] 0 (.fresh 0 0 (!X.w.params.followText "set-order")) }) (a := s.heap.objs.size) (Heap.get?_push_size _ rfl))).bare
  exact ⟨.ref _, upd H s.heap.objs.size (SetBO X.prog X.w s.heap.objs.size []), I.laid (t' := s.toks) (fun b u e => Heap.get?_push_of_some _ e) (Nat.le_refl _) (setBO_new nw), rfl, q _ (I.hok.fresh (Nat.le_refl _))⟩
theorem B_find {P : Program} {w : World} {A : Around} {E : Value → Shared → Prop} {s : Shared} {a : Addr} {L : List (Addr × List Int)} {es : Array (Int × Value)} {ep : Nat} {t : SetTable} (R : SetB P w s.heap a L es ep t) {x : Addr} {k : List Int} (hx : IsT P w s.heap k x) (hu : A.units < cLine) {Q : Option Nat → Shared → Prop}
    (h : ∀ r : Option Nat, r.isSome = decide (k ∈ L.map (·.2)) → Q r s) : wpAny (model P w) A (setFind a (.ref x) (thash P w k)) Q E s := by
  obtain ⟨o, ho, hex, hd⟩ := R.obj
  unfold setFind setFindIn
  refine wpAny_bind (wpAny_setState_of ho hd R.ft ?_)
  dsimp only
  refine wp_if_neg (by simp [byScan, Value.scannable]) ?_
  try refine wpAny_bind (wpAny_pure ?_)
  refine wpAny_bind (R.search hx hu false (fun hm r hr => ?_) fun K hm _ _ => ?_)
  · dsimp only
    exact wpAny_pure (h r (by rw [hr rfl, decide_eq_true hm]))
  · dsimp only
    exact wpAny_pure (h none (by rw [decide_eq_false hm]; rfl))
/-- t in s -/
def rBIn (K : PySem.W.Frag) (P : Program) (w : World) : V → V → Hp → VK → Prop := fun x y H Q => ∃ (b a : Addr) (k : List Int) (L : List (Addr × List Int)), x = V.ref b ∧ y = V.ref a ∧ SqT K H b (k.map V.int) ∧ H a = some (SetBO P w a L) ∧ (∀ p ∈ L, SqT K H p.1 (p.2.map V.int)) ∧ Q (.bl (decide (k ∈ L.map (·.2)))) H
theorem op_bin (hu : X.A.units + 64 < cLine) : OpR X (compareOp .In) (rBIn X.K X.prog X.w) := by
  intro pins s σ H x y v u Q I rx ry h
  obtain ⟨b, a, k, L, rfl, rfl, hb, ha, ht, q⟩ := h
  cases rx
  cases ry
  obtain ⟨es, ep, t, R⟩ := setBO_get I ha ht
  have hx := I.isT hb
  obtain ⟨o, ho, hex, hd⟩ := R.obj
  have hT : s.TypeIs (.ref a) "set" := ⟨o, ho, hex.1⟩
  show wpAny _ _ (do return Value.bool (← contains (.ref a) (.ref b))) _ _ s
  refine wpAny_bind ?_
  unfold contains
  try with_reducible refine wpAny_holding ?_
  refine wpAny_bind (wpAny_specialOf hT F.slot_set_contains.lookup ?_)
  show wpAny _ _ (if (some (Value.builtin "set.__contains__") == some Value.none) = true then _ else _) _ _ s
  rw [if_neg (by rw [beq_builtin_none]; exact Bool.false_ne_true)]
  refine wpAny_bind (wpAny_callSpecialUnlessNone?_slot (name := Str.ofString "__contains__") hT F.slot_set_contains (wpAny_call_entry F.slot_set_contains hT entry_set_contains ?_ (F.args_set_contains_2 _ _)))
  unfold Builtin.«frozenset.__contains__» Builtin.Frozenset.oneOther
  simp only [List.isEmpty_nil, bind_assoc]
  unfold Builtin.Frozenset.addrOf Builtin.Frozenset.withSetAsKey setContains
  refine wpAny_bind (wpAny_pure ?_)
  try dsimp only
  refine wpAny_bind (wpAny_pure ?_)
  try dsimp only
  refine wpAny_bind (wpAny_tryCatch ?_)
  refine wpAny_holding ?_
  refine wpAny_bind (wpAny_pyHash_tuple (by show X.A.units + _ < cLine; omega) hx ?_)
  have fin : ∀ r : Option Nat, r.isSome = decide (k ∈ L.map (·.2)) → Q (.bl r.isSome) H := fun r e => by rw [e]; exact q
  refine wpAny_bind (B_find (s := { s with toks := s.toks + (k.length + 1) }) R hx (by show X.A.units + _ < cLine; omega) fun r hr => ?_)
  refine wpAny_pure ?_
  show wpAny _ _ (ret (Value.bool r.isSome)) _ _ _
  exact wpAny_pure ⟨_, rfl, wpAny_truthy_bool (wpAny_pure ⟨.bl r.isSome, H, I.tok _, rfl, fin r hr⟩)⟩
/-- s.add(t) -/
def rBAdd (K : PySem.W.Frag) (P : Program) (w : World) : V → List V → Hp → VK → Prop := fun x xs H Q => ∃ (a b : Addr) (k : List Int) (L : List (Addr × List Int)), x = V.ref a ∧ xs = [V.ref b] ∧ SqT K H b (k.map V.int) ∧ H a = some (SetBO P w a L) ∧ (∀ p ∈ L, SqT K H p.1 (p.2.map V.int)) ∧ L.length + 1 < 76 ∧
  ∀ L', (k ∈ L.map (·.2) → L' = L) → (k ∉ L.map (·.2) → L'.Perm ((b, k) :: L)) → Q .non (upd H a (SetBO P w a L'))
theorem mt_badd (hu : X.A.units + 64 < cLine) : MtR X "set.add" (rBAdd X.K X.prog X.w) := by
  intro pins s σ H x xs v us Q I rx rxs h
  obtain ⟨a, b, k, L, rfl, rfl, hb, ha, ht, hf, q⟩ := h
  cases rx
  cases rxs with
  | cons ry rt =>
    cases rt
    cases ry
    obtain ⟨es, ep, t, R⟩ := setBO_get I ha ht
    have hx := I.isT hb
    obtain ⟨o, ho, hex, hd⟩ := R.obj
    have hT : s.TypeIs (.ref a) "set" := ⟨o, ho, hex.1⟩
    refine wpAny_call_entry F.slot_set_add hT F.entry_set_add ?_ (F.args_set_add_2 _ _)
    unfold Builtin.«set.add» Builtin.Frozenset.oneOther
    simp only [List.isEmpty_nil, bind_assoc]
    unfold Builtin.Frozenset.addrOf setAdd
    refine wpAny_bind (wpAny_pure ?_)
    try dsimp only
    refine wpAny_bind (wpAny_pure ?_)
    try dsimp only
    refine wpAny_bind ?_
    refine wpAny_holding ?_
    refine wpAny_bind (wpAny_pyHash_tuple (by show X.A.units + _ < cLine; omega) hx ?_)
    refine SetB.add (s := { s with toks := s.toks + (k.length + 1) }) R hx (by show X.A.units + _ < cLine; omega) hf fun b' h' L' es' ep' t' sb R' c1 c2 => ?_
    show wpAny _ _ (ret Value.none) _ _ _
    have he : ∃ u, h'.get? a = some u := by
      obtain ⟨o', ho', _⟩ := R'.obj
      exact ⟨o', ho'⟩
    exact wpAny_pure ⟨_, rfl, .non, upd H a (SetBO X.prog X.w a L'), I.write (e := a) (t' := s.toks + (k.length + 1)) (by rw [ha]; trivial) (.inl rfl) (fun c u hc hu => (sb.2 c hc).trans hu) he (setBO_new R'.bare), rfl, q L' c1 c2⟩
def tBAdd (K : PySem.W.Frag) (P : Program) (w : World) (to : TE) (t : TA) : TE := fun σ H Q => to σ H fun x H1 => (∃ a L, x = V.ref a ∧ H1 a = some (SetBO P w a L)) ∧ t σ H1 fun xs H2 => rBAdd K P w x xs H2 Q
variable {o e : Expr} {es : List Expr} {to : TE} {t : TA} {apos cpos : Pos}
theorem pe_badd (hu : X.A.units + 64 < cLine) (ho : PE X o to) (ha : PA X (e :: es) t)
    (hbase : attributeBase o "add" X.env (eval o X.env) = eval o X.env := by rfl)
    (hfew : ((backTo cpos (starEach (e :: es) X.env)).all (fun x => !x.1) && (backToKw cpos (keywordEach [] X.env)).all (fun x => x.1.isSome)
      && decide ((e :: es).length + ([] : List Keyword).length + (if ([] : List Keyword).isEmpty then 0 else 1) < 30)) = true := by rfl)
    (hline : (apos.endLine == cpos.line) = true := by rfl) (hs : starEach (e :: es) X.env = (false, eval e X.env) :: starEach es X.env := by rfl) (hplain : (backTo cpos (starEach es X.env)).any (·.1) = false := by rfl) :
    PE X (.Call (.Attribute o "add" apos) (e :: es) [] cpos) (tBAdd X.K X.prog X.w to t) := by
  refine ⟨fun pins s σ H Q I h => ?_⟩
  refine wpAny_Call_method_late hbase hfew hline rfl (thn (ho.run pins s σ H _ I h) fun v s1 ⟨x, H1, I1, r1, ty, q1⟩ => ?_)
  obtain ⟨a, L, rfl, hka⟩ := ty
  cases r1
  obtain ⟨es0, ep, tt, ⟨ob, hob, hex, hd⟩, _⟩ := SetB0.has (I1.hok a _ hka).1
  have hT : s1.TypeIs (.ref a) "set" := ⟨ob, hob, hex.1⟩
  refine ⟨"set", "set.add", F.plainAttrs_set, F.slot_set_add, F.type_set_add, hT, fun b hb => by injection hb with hb; subst hb; exact ⟨ob, hob, hex.2.1⟩, ?_⟩
  have hA := ha.run cpos pins s1 σ H1 _ I1 q1
  rw [hs] at hA ⊢
  refine Calls.callWith_builtin (by show (false || (backTo cpos (starEach es X.env)).any (·.1)) = false; rw [hplain] <;> rfl) (Calls.evalArgs_plain ?_)
  exact thn hA fun us s2 ⟨vs, H2, I2, r2, q2⟩ => mt_badd hu pins s2 σ H2 (.ref a) vs (.ref a) us Q I2 rfl r2 q2
end
end L2

namespace L2
open PySem PySem.Spec PyProof.Rows
def PrAt (K : PySem.W.Frag) (H : Hp) (x : V) (d : Int × Int) : Prop := ∃ t, x = V.ref t ∧ SqT K H t [.int d.1, .int d.2]
/-- sorted(xs), xs a list of pairs of ints -/
def rSortP (K : PySem.W.Frag) : List V → Hp → VK → Prop := fun vs H Q => ∃ (a : Addr) (xs : List V) (ds : List (Int × Int)), vs = [V.ref a] ∧ SqL K H a xs ∧ Paired (PrAt K H) xs ds ∧
  ∀ ys es p, Paired (PrAt K H) ys es → es.Perm ds → es.Pairwise (fun a b => Mi.leP a b = true) → H p = none → Q (.ref p) (upd H p (.lst ys))
section
variable {X : Cx} {pins : List (Addr × Obj)} {σ : St} {H : Hp} {s : Shared}
theorem prAt_inj (I : Inv X pins σ H s) {x : V} {d e : Int × Int} (h1 : PrAt X.K H x d) (h2 : PrAt X.K H x e) : d = e := by
  obtain ⟨t, rfl, s1⟩ := h1
  obtain ⟨t', e2, s2⟩ := h2
  obtain rfl := V.ref.inj e2
  have z := I.tuple_inj s1 s2
  simp only [List.cons.injEq, V.int.injEq, and_true] at z
  exact Prod.ext z.1 z.2
open Classical in
noncomputable def prOf (K : PySem.W.Frag) (H : Hp) (u : V) : Int × Int := if h : ∃ d, PrAt K H u d then h.choose else (0, 0)
theorem prOf_eq (I : Inv X pins σ H s) {x : V} {d : Int × Int} (r : PrAt X.K H x d) : prOf X.K H x = d := by
  have h : ∃ d, PrAt X.K H x d := ⟨d, r⟩
  unfold prOf
  rw [dif_pos h]
  exact prAt_inj I h.choose_spec r
theorem prs_map (I : Inv X pins σ H s) {vs : List V} {xs : List (Int × Int)} (q : Paired (PrAt X.K H) vs xs) : vs.map (prOf X.K H) = xs := by
  induction q with
  | nil => rfl
  | cons r t ih => rw [List.map_cons, prOf_eq I r, ih]
theorem prs_back (I : Inv X pins σ H s) {vs : List V} (h : ∀ u ∈ vs, ∃ d, PrAt X.K H u d) : Paired (PrAt X.K H) vs (vs.map (prOf X.K H)) := by
  induction vs with
  | nil => exact .nil
  | cons u vs ih =>
    obtain ⟨d, hd⟩ := h u (List.mem_cons_self ..)
    exact .cons (by rw [prOf_eq I hd]; exact hd) (ih fun u' m => h u' (List.mem_cons_of_mem _ m))
theorem prs_mem {α : Type} {R : V → α → Prop} {vs : List V} {xs : List α} (q : Paired R vs xs) : ∀ u ∈ vs, ∃ d, R u d := by
  induction q with
  | nil => exact fun u m => nomatch m
  | cons r t ih =>
    intro u m
    rcases List.mem_cons.mp m with rfl | m
    · exact ⟨_, r⟩
    · exact ih u m
theorem leP_iff {a b : Int × Int} : Mi.leP a b = true ↔ (a.1 < b.1 ∨ (a.1 = b.1 ∧ a.2 ≤ b.2)) := by unfold Mi.leP; exact decide_eq_true_iff
theorem cr_sortP : CallR X (.builtin "sorted") (rSortP X.K) := by
  intro pins s σ H vs us Q I r h
  obtain ⟨a, xs, ds, rfl, hsq, hx, q⟩ := h
  have hd := prs_mem hx
  obtain ⟨its, rv, hl, hz⟩ := I.list hsq
  obtain ⟨u, rfl, ru⟩ := vals1 r
  obtain rfl : u = Value.ref a := ru
  obtain ⟨e1, e2⟩ := refs_back rv fun x m => by
    obtain ⟨d, t, e, _⟩ := hd x m
    exact ⟨t, e⟩
  refine SrtO.sorted_pairsO (k := fun u => prOf X.K H (backV u)) hl.isList (by rw [← rv.length]; exact hz) (fun v hv => ?_) fun h' d out h1 h2 kp hd' hn => ?_
  · obtain ⟨t, rfl⟩ := e2 v hv
    have hm : V.ref t ∈ xs := by rw [e1]; exact List.mem_map.mpr ⟨_, hv, rfl⟩
    obtain ⟨d, hp⟩ := hd _ hm
    have ep : prOf X.K H (backV (Value.ref t)) = d := prOf_eq I hp
    obtain ⟨t', e, ht⟩ := hp
    cases e
    obtain ⟨its2, r2, ⟨o, ho, hc, n, hd2⟩, _⟩ := I.tuple ht
    obtain ⟨u1, u2, rfl, ri, rj⟩ := vals2 r2
    obtain ⟨t1, rfl⟩ := ri
    obtain ⟨t2, rfl⟩ := rj
    refine ⟨t, o, t1, t2, n, rfl, ho, hc, ?_⟩
    rw [ep]; exact hd2
  · have h3 : ∀ u ∈ out, ∃ a, u = Value.ref a := fun u hu => e2 u (h2.perm.mem_iff.mp hu)
    obtain ⟨n, hn⟩ := hn
    have hb : (out.map backV).Perm xs := by rw [e1]; exact h2.perm.map backV
    refine ⟨.ref d, upd H d (.lst (out.map backV)), I.laid (t' := s.toks) kp hd' ⟨?_, out, n, vals_back h3, hn⟩, rfl, q _ _ d (prs_back I fun u m => hd u (hb.mem_iff.mp m)) ?_ ?_ (I.hok.fresh hd')⟩
    · rw [hb.length_eq]; exact hz
    · rw [← prs_map I hx]; exact hb.map _
    · rw [List.pairwise_map, List.pairwise_map]
      refine List.Pairwise.imp (fun {u u'} z => ?_) h1
      rw [leP_iff]
      have := SrtO.lexB_no.mp z
      omega
end
end L2
namespace G
open PySem PySem.Spec PyProof.Rows L2
abbrev yPair : Ty (Int × Int) := yTup (sCons yInt (sOne yInt))
section
variable {X : Cx} {P : Program} {w : World} {K : PySem.W.Frag} {σ σ' : L2.St} {H : Hp} {F F1 F2 Fu : List Addr} {ta tb te to : TE} {v u x y : V} {i j : Int} {Q : VK}
theorem pair_sq {d : Int × Int} (r : yPair.rep K H F v d) : F = [] ∧ ∃ a, v = .ref a ∧ SqT K H a [.int d.1, .int d.2] := by
  obtain ⟨a, vs, rfl, s, q⟩ := r
  obtain ⟨v1, ws, F1, F2, rfl, rfl, q1, q2⟩ := q
  obtain ⟨v2, rfl, q2⟩ := q2
  obtain ⟨rfl, rfl⟩ := q1
  obtain ⟨rfl, rfl⟩ := q2
  exact ⟨rfl, a, rfl, s⟩
theorem pair_mk {a : Addr} {d : Int × Int} (s : SqT K H a [.int d.1, .int d.2]) : yPair.rep K H [] (.ref a) d := ⟨a, _, rfl, s, _, _, [], [], rfl, rfl, ⟨rfl, rfl⟩, _, rfl, rfl, rfl⟩
/-! ### sorted pairs -/
theorem cl_sortP {K : PySem.W.Frag} (e : X.K = K := by rfl) : CallR X (.builtin "sorted") (rSortP K) := by subst e; exact cr_sortP
theorem leP_uniq : ∀ {xs ys : List (Int × Int)}, xs.Perm ys → xs.Pairwise (fun a b => Mi.leP a b = true) → ys.Pairwise (fun a b => Mi.leP a b = true) → xs = ys
  | [], ys, p, _, _ => p.nil_eq
  | x :: xs, [], p, _, _ => absurd p.length_eq (by simp)
  | x :: xs, y :: ys, p, h1, h2 => by
    have hx := List.pairwise_cons.mp h1
    have hy := List.pairwise_cons.mp h2
    have e : x = y := by
      have a1 : y ∈ x :: xs := p.mem_iff.mpr (List.mem_cons_self ..)
      have a2 : x ∈ y :: ys := p.mem_iff.mp (List.mem_cons_self ..)
      rcases List.mem_cons.mp a1 with z | z
      · exact z.symm
      · rcases List.mem_cons.mp a2 with q | q
        · exact q
        · have b1 := leP_iff.mp (hx.1 y z)
          have b2 := leP_iff.mp (hy.1 x q)
          exact Prod.ext (by omega) (by omega)
    subst e
    rw [leP_uniq (List.Perm.cons_inv p) hx.2 hy.2]
theorem sortP_pw (xs : List (Int × Int)) : (Mi.sortP xs).Pairwise (fun a b => Mi.leP a b = true) :=
  List.pairwise_mergeSort (le := Mi.leP) (fun a b c h1 h2 => by rw [leP_iff] at *; omega) (fun a b => by rw [Bool.or_eq_true, leP_iff, leP_iff]; omega) xs
theorem pair_at {d : Int × Int} : yPair.rep K H [] u d ↔ PrAt K H u d := by
  constructor
  · intro r
    obtain ⟨_, a, e, s⟩ := pair_sq r
    exact ⟨a, e, s⟩
  · rintro ⟨a, rfl, s⟩
    exact pair_mk s
theorem w_sortedP {xs : List (Int × Int)} (r : (yLst yPair).rep K H F v xs) (k : ∀ p H', H p = none → Chg [] H H' → (yLst yPair).rep K H' [p] (.ref p) (Mi.sortP xs) → Q (.ref p) H') : rSortP K [v] H Q := by
  obtain ⟨a, vs, rfl, s, q⟩ := lst_sq r
  refine ⟨a, vs, xs, rfl, s, Paired.mapP q fun _ _ z => pair_at.mp z, fun ys es p hp pm so np => ?_⟩
  have e : es = Mi.sortP xs := leP_uniq (pm.trans (List.mergeSort_perm _ _).symm) so (sortP_pw xs)
  subst e
  exact k p _ np (Chg.new np) ⟨p, ys, rfl, rfl, upd_same, Paired.mapP hp fun _ _ z => Ty.ex (pair_at.mpr z) (Chg.new np)⟩
/-! ### sets of pairs -/
def ySetP (P : Program) (w : World) : Ty (List (Int × Int)) where
  rep K H F v xs := ∃ a L, v = .ref a ∧ F = [a] ∧ H a = some (SetBO P w a L) ∧ (∀ p ∈ L, SqT K H p.1 (p.2.map V.int)) ∧ L.length = xs.length ∧ ∀ k : Int × Int, [k.1, k.2] ∈ L.map (·.2) ↔ k ∈ xs
  keep {K H H' F v xs} h k := by
    obtain ⟨a, L, e, rfl, g, t, l, m⟩ := h
    exact ⟨a, L, e, rfl, k a _ g (.inl (List.mem_singleton.mpr rfl)), fun p hp => SqT.keeps (t p hp) fun b o hb z => k b o hb (.inr z), l, m⟩
  dom {K H F v xs} h b m := by
    obtain ⟨a, L, e, rfl, g, _⟩ := h
    rw [List.mem_singleton] at m; subst m
    exact ⟨_, g, fun z => z⟩
theorem cl_setP0 {P : Program} {w : World} (e : X.prog = P := by rfl) (e2 : X.w = w := by rfl) : CallR X (.type "set") (rSetB0 P w) := by subst e e2; exact cr_setB0
theorem w_setP0 (k : ∀ p H', H p = none → Chg [] H H' → (ySetP P w).rep K H' [p] (.ref p) [] → Q (.ref p) H') : rSetB0 P w [] H Q := ⟨rfl, fun p np => k p _ np (Chg.new np) ⟨p, [], rfl, rfl, upd_same, (fun q hq => absurd hq List.not_mem_nil), rfl, (fun k => ⟨fun z => absurd z List.not_mem_nil, fun z => absurd z List.not_mem_nil⟩)⟩⟩
theorem op_inP {K : PySem.W.Frag} {P : Program} {w : World} (hu : X.A.units + 64 < cLine) (e0 : X.K = K := by rfl) (e : X.prog = P := by rfl) (e2 : X.w = w := by rfl) : OpR X (compareOp .In) (rBIn K P w) := by subst e0 e e2; exact op_bin hu
theorem w_inP {xs : List (Int × Int)} {d : Int × Int} (r : (ySetP P w).rep K H F v xs) (ru : yPair.rep K H Fu u d) (k : Q (.bl (xs.contains d)) H) : rBIn K P w u v H Q := by
  obtain ⟨a, L, rfl, rfl, g, t, l, m⟩ := r
  obtain ⟨_, b, rfl, s⟩ := pair_sq ru
  refine ⟨b, a, [d.1, d.2], L, rfl, rfl, s, g, t, ?_⟩
  have e : decide ([d.1, d.2] ∈ L.map (·.2)) = xs.contains d := by
    rw [List.contains_eq_mem]
    exact decide_eq_decide.mpr (m d)
  rw [e]; exact k
theorem w_badd {ts : TA} (h : to σ H fun x H1 => (∃ a L, x = V.ref a ∧ H1 a = some (SetBO P w a L)) ∧ ts σ H1 fun xs H2 => rBAdd K P w x xs H2 Q) : tBAdd K P w to ts σ H Q := h
theorem tyv_setP {xs : List (Int × Int)} (r : (ySetP P w).rep K H F v xs) : ∃ a L, v = V.ref a ∧ H a = some (SetBO P w a L) := by
  obtain ⟨a, L, rfl, rfl, g, _⟩ := r
  exact ⟨a, L, rfl, g⟩
theorem m_saddP {xs ys : List (Int × Int)} {d : Int × Int} (r : (ySetP P w).rep K H F v xs) (ru : yPair.rep K H Fu u d) (hm : Mi.saddP xs d = some ys) (k : ∀ H', Chg F H H' → (ySetP P w).rep K H' F v ys → Q .non H') : rBAdd K P w v [u] H Q := by
  obtain ⟨a, L, rfl, rfl, g, t, l, m⟩ := r
  obtain ⟨_, b, rfl, s⟩ := pair_sq ru
  unfold Mi.saddP at hm
  split at hm
  · rename_i hz
    obtain rfl := Option.some.inj hm
    refine ⟨a, b, [d.1, d.2], L, rfl, rfl, s, g, t, by omega, fun L' c1 c2 => ?_⟩
    have c : Chg [a] H (upd H a (SetBO P w a L')) := Chg.wr g (fun z => z)
    have kt : ∀ {b' : Addr} {vs : List V}, SqT K H b' vs → SqT K (upd H a (SetBO P w a L')) b' vs := fun sq => SqT.keeps sq fun b o hb z => c.keep b o hb (.inr z)
    by_cases hc : d ∈ xs
    · have e := c1 ((m d).mpr hc)
      rw [if_pos (show xs.contains d = true by rw [List.contains_eq_mem]; exact decide_eq_true hc)] at k
      exact k _ c ⟨a, L', rfl, rfl, upd_same, fun p hp => kt (t p (e ▸ hp)), by rw [e]; exact l, by rw [e]; exact m⟩
    · have pm := c2 fun z => hc ((m d).mp z)
      rw [if_neg (show ¬ xs.contains d = true by rw [List.contains_eq_mem, decide_eq_false hc]; exact Bool.false_ne_true)] at k
      refine k _ c ⟨a, L', rfl, rfl, upd_same, fun p hp => ?_, by rw [pm.length_eq, List.length_cons, List.length_append, l]; rfl, fun q => ?_⟩
      · rcases List.mem_cons.mp (pm.mem_iff.mp hp) with rfl | hp
        · exact kt s
        · exact kt (t p hp)
      · rw [(pm.map (·.2)).mem_iff, List.map_cons, List.mem_cons, m q, List.mem_append, List.mem_singleton]
        constructor
        · rintro (z | z)
          · simp only [List.cons.injEq, and_true] at z
            exact .inr (Prod.ext z.1 z.2)
          · exact .inl z
        · rintro (z | rfl)
          · exact .inr z
          · exact .inl rfl
  · cases hm
theorem pe_saddP {K : PySem.W.Frag} {P : Program} {w : World} {o e : Expr} {es : List Expr} {t : TA} {apos cpos : Pos} (hu : X.A.units + 64 < cLine) (ho : PE X o to) (ha : PA X (e :: es) t) (e0 : X.K = K := by rfl) (e1 : X.prog = P := by rfl) (e2 : X.w = w := by rfl)
    (hbase : attributeBase o "add" X.env (eval o X.env) = eval o X.env := by rfl)
    (hfew : ((backTo cpos (starEach (e :: es) X.env)).all (fun x => !x.1) && (backToKw cpos (keywordEach [] X.env)).all (fun x => x.1.isSome)
      && decide ((e :: es).length + ([] : List Keyword).length + (if ([] : List Keyword).isEmpty then 0 else 1) < 30)) = true := by rfl)
    (hline : (apos.endLine == cpos.line) = true := by rfl) (hs : starEach (e :: es) X.env = (false, eval e X.env) :: starEach es X.env := by rfl) (hplain : (backTo cpos (starEach es X.env)).any (·.1) = false := by rfl) :
    PE X (.Call (.Attribute o "add" apos) (e :: es) [] cpos) (tBAdd K P w to t) := by subst e0 e1 e2; exact pe_badd hu ho ha hbase hfew hline hs hplain
end
end G

namespace G
open PySem PySem.Spec PyProof.Rows L2
theorem pg_tupk {X : Cx} {K : PySem.W.Frag} {es : List Expr} {k : Nat} {t : TGs} {n : Nat} {pos : Pos} (hc : X.calm = true) (h : PGs X es t) (e : X.K = K := by rfl)
    (hn : (assignEach es X.env).length = n := by rfl) (hst : (assignEach es X.env).findIdx? (·.1) = none := by rfl) : PG X (.Tuple es k pos) (gTup K n t) := by subst e; exact pg_tup hc h hn hst
theorem st_eqT {σ σ' : L2.St} {H : Hp} {t : TT} {Q : Bool → Hp → Prop} (e : σ = σ') (h : t σ' H Q) : t σ H Q := e ▸ h
end G

namespace G
open PySem PySem.Spec PyProof.Rows L2
section
variable {K : PySem.W.Frag} {σ σ' : L2.St} {H : Hp} {F F1 F2 Fu : List Addr} {ta tb tc te : TE} {tA : TT} {v u x y : V} {i j k : Int} {α β : Type} {τ : Ty α} {υ : Ty β} {Q : VK} {c : Bool}
/-- a < b < c -/
theorem val_chainI {p q : Int → Int → Bool} (ha : Val ta σ H (.int i)) (hb : Val tb σ H (.int j)) (hc : Val tc σ H (.int k)) : Val (tChain (rI0 fun i j => .bl (p i j)) (rI0 fun i j => .bl (q i j)) ta tb tc) σ H (.bl (p i j && q j k)) := fun Q z => by
  refine ha _ (hb _ ⟨i, j, rfl, rfl, p i j, rfl, ?_⟩)
  cases e : p i j with
  | true =>
    rw [if_pos rfl]
    refine hc _ ⟨j, k, rfl, rfl, ?_⟩
    rw [e, Bool.true_and] at z; exact z
  | false =>
    rw [if_neg Bool.false_ne_true]
    rw [e, Bool.false_and] at z; exact z
/-- a if t else b -/
theorem val_if (ht : Ans tA σ H c) (h1 : c = true → Val ta σ H v) (h2 : c = false → Val tb σ H v) : Val (tIf tA ta tb) σ H v := fun Q z => ht _ (by
  cases hc : c with
  | true => rw [if_pos rfl]; exact h1 hc _ z
  | false => rw [if_neg Bool.false_ne_true]; exact h2 hc _ z)
theorem val_ifO {A B : Option α} {z : α} {f : α → V} (ht : Ans tA σ H c) (hz : (if c = true then A else B) = some z) (h1 : A = some z → Val ta σ H (f z)) (h2 : B = some z → Val tb σ H (f z)) : Val (tIf tA ta tb) σ H (f z) :=
  val_if ht (fun hc => h1 (by rw [if_pos hc] at hz; exact hz)) fun hc => h2 (by rw [hc, if_neg Bool.false_ne_true] at hz; exact hz)
end
end G

namespace G
open PySem PySem.Spec PyProof.Rows L2
section
variable {X : Cx} {K : PySem.W.Frag} {σ σ' : L2.St} {H : Hp} {F F1 F2 Fu : List Addr} {ta tb te : TE} {v u x y : V} {Q : VK} {b c : Bool}
/-- b is True -/
def rIsB : R2 := fun x y H Q => ∃ a b, x = .bl a ∧ y = .bl b ∧ Q (.bl (decide (a = b))) H
def rNotB : R2 := fun x y H Q => ∃ a b, x = .bl a ∧ y = .bl b ∧ Q (.bl (!decide (a = b))) H
theorem op_isB : OpR X (compareOp .Is) rIsB := op_is_bl
theorem op_notB : OpR X (compareOp .IsNot) rNotB := op_isnot_bl
theorem w_isB (k : Q (.bl (decide (b = c))) H) : rIsB (.bl b) (.bl c) H Q := ⟨b, c, rfl, rfl, k⟩
theorem w_notB (k : Q (.bl (!decide (b = c))) H) : rNotB (.bl b) (.bl c) H Q := ⟨b, c, rfl, rfl, k⟩
theorem val_isB (ha : Val ta σ H (.bl b)) (hb : Val tb σ H (.bl c)) : Val (tOp rIsB ta tb) σ H (.bl (decide (b = c))) := val_op ha hb fun Q q => w_isB q
theorem val_notB (ha : Val ta σ H (.bl b)) (hb : Val tb σ H (.bl c)) : Val (tOp rNotB ta tb) σ H (.bl (!decide (b = c))) := val_op ha hb fun Q q => w_notB q
end
end G

namespace G
open PySem PySem.Spec PyProof.Rows L2
/-! ### a list of a few things of kinds of their own -/
def yHl {α : Type} (ts : Tys α) : Ty α where
  rep K H F v d := ∃ a vs G, v = .ref a ∧ F = a :: G ∧ a ∉ G ∧ H a = some (.lst vs) ∧ ts.rep K H G vs d
  keep {K H H' F v d} h k := by
    obtain ⟨a, vs, G, e, rfl, na, g, r⟩ := h
    exact ⟨a, vs, G, e, rfl, na, k a _ g (.inl (List.mem_cons_self ..)), ts.keep r fun b o hb z => k b o hb (z.imp (List.mem_cons_of_mem _) id)⟩
  dom {K H F v d} h b m := by
    obtain ⟨a, vs, G, e, rfl, na, g, r⟩ := h
    rcases List.mem_cons.mp m with rfl | m
    · exact ⟨_, g, fun z => z⟩
    · exact ts.dom r b m
section
variable {K : PySem.W.Frag} {σ σ' : L2.St} {H : Hp} {F F1 F2 Fu G : List Addr} {ta tb te : TE} {v u x y : V} {i j : Int} {α β : Type} {τ : Ty α} {υ : Ty β} {ts : Tys α} {Q : VK} {D : Ends} {nx : L2.St → Hp → Prop}
theorem itm_hl {n : Nat} {p : α → β} {d : α} (A : At ts n υ p) (r : (yHl ts).rep K H F v d) :
    ∃ u F1, υ.rep K H F1 u (p d) ∧ (∀ a ∈ F1, a ∈ F) ∧ (∀ {Q : VK}, Q u H → rIxL K v (.int (n : Int)) H Q) ∧ ∀ {σ : L2.St} {ta tb : TE}, Val ta σ H v → Val tb σ H (.int (n : Int)) → Val (tOp (rIxL K) ta tb) σ H u := by
  obtain ⟨a, vs, G, rfl, rfl, na, g, q⟩ := r
  obtain ⟨u, F1, e, ru, sub⟩ := A q
  have k : ∀ {Q : VK}, Q u H → rIxL K (.ref a) (.int (n : Int)) H Q := fun k => ⟨a, vs, n, u, rfl, rfl, .inl (.inl g), atI_nat e, k⟩
  exact ⟨u, F1, ru, fun b hb => List.mem_cons_of_mem _ (sub b hb), k, fun ha hb => val_op ha hb fun Q q => k q⟩
theorem e_hl {vs : List V} {d : α} (z : vs.length ≤ Mi.big) (r : ts.rep K H G vs d) (k : ∀ p H', H p = none → Chg [] H H' → (yHl ts).rep K H' (p :: G) (.ref p) d → Q (.ref p) H') : LstG vs H Q :=
  ⟨sz z, fun p np => k p _ np (Chg.new np) ⟨p, vs, G, rfl, rfl, (fun hp => by
    obtain ⟨o, ho, _⟩ := ts.dom r p hp
    rw [np] at ho; cases ho), upd_same, ts.keep r fun b o e _ => by rw [upd_ne (ne_of_none e np)]; exact e⟩⟩
def AllL (ts : Tys α) : Prop := ∀ {K : PySem.W.Frag} {H : Hp} {G : List Addr} {vs : List V} {d : α}, ts.rep K H G vs d → ∀ u ∈ vs, ∃ p xs, u = .ref p ∧ p ∈ G ∧ H p = some (.lst xs)
theorem als_one : AllL (sOne (yLst τ)) := fun r u m => by
  obtain ⟨w, rfl, q⟩ := r
  obtain rfl := List.mem_singleton.mp m
  obtain ⟨p, vs, rfl, rfl, g, _⟩ := q
  exact ⟨p, vs, rfl, List.mem_singleton.mpr rfl, g⟩
theorem als_cons (h : AllL ts) : AllL (sCons (yLst υ) ts) := fun r u m => by
  obtain ⟨w, ws, F1, F2, rfl, rfl, q, qs⟩ := r
  rcases List.mem_cons.mp m with rfl | m
  · obtain ⟨p, vs, rfl, rfl, g, _⟩ := q
    exact ⟨p, vs, rfl, List.mem_append_left _ (List.mem_singleton.mpr rfl), g⟩
  · obtain ⟨p, xs, e, hp, g⟩ := h qs u m
    exact ⟨p, xs, e, List.mem_append_right _ hp, g⟩
/-- for part in parts: part.clear() -/
theorem l_clear {tb : TS} {d : α} {s : Nat} (al : AllL ts) (r : (yHl ts).rep K H F v d) (hs : s < σ.length)
    (hb : ∀ (D : Ends) (σ : L2.St) (H : Hp) (p : Addr) (xs : List V), σ[s]? = some (some (.ref p)) → H p = some (.lst xs) → D.nx σ (upd H p (.lst [])) → tb D σ H)
    (hk : ∀ σ' H', Chg F H H' → (∃ y, σ' = σ.set s y) → nx σ' H') :
    ∃ a, v = .ref a ∧ (∃ xs, SqL K H a xs) ∧ LoopG (Itl K a) (gName s) tb D nx σ H := by
  obtain ⟨a, vs, G, rfl, rfl, na, g, q⟩ := r
  have hl := al q
  have ini : ∃ y, σ = σ.set s y := ⟨σ[s], (List.set_getElem_self hs).symm⟩
  refine ⟨a, rfl, ⟨vs, .inl (.inl g)⟩, fun i m σ' H' => m = vs.length - i ∧ i ≤ vs.length ∧ Chg (a :: G) H H' ∧ H' a = some (.lst vs) ∧ (∀ u ∈ vs, ∃ p xs, u = .ref p ∧ p ∈ G ∧ H' p = some (.lst xs)) ∧ (∃ y, σ' = σ.set s y), ⟨vs.length, by omega, Nat.zero_le _, Chg.refl H, g, hl, ini⟩, ?_⟩
  rintro i m σ' H' ⟨rfl, hi, c, ga, hu, y', hy⟩
  by_cases hlt : i < vs.length
  · have hv : vs[i]? = some vs[i] := List.getElem?_eq_getElem hlt
    refine .inr ⟨⟨vs, vs[i], .inl (.inl ga), hv⟩, fun σ2 H2 => i + 1 ≤ vs.length ∧ Chg (a :: G) H H2 ∧ H2 a = some (.lst vs) ∧ (∀ u ∈ vs, ∃ p xs, u = .ref p ∧ p ∈ G ∧ H2 p = some (.lst xs)) ∧ (∃ y, σ2 = σ.set s y), fun σ2 H2 p' => ⟨vs.length - (i + 1), by omega, rfl, p'⟩, fun x H2 y => ?_⟩
    obtain ⟨rfl, y⟩ := y
    obtain rfl : x = vs[i] := Option.some.inj ((y _ (.inl (.inl ga))).symm.trans hv)
    obtain ⟨p, xs, ep, hp, gp⟩ := hu _ (List.mem_of_getElem? hv)
    rw [ep]
    have hs2 : s < σ'.length := by rw [hy, List.length_set]; exact hs
    refine hb _ _ _ p xs (by show (σ'.set s (some (.ref p)))[s]? = _; rw [List.getElem?_set_self hs2]) gp ⟨hlt, ?_, ?_, fun u m => ?_, ?_⟩
    · exact c.trans ((Chg.wr gp (fun z => z)).mono fun b hb => by rw [List.mem_singleton] at hb; subst hb; exact List.mem_cons_of_mem _ hp)
    · have : a ≠ p := fun e => by subst e; exact na hp
      rw [upd_ne this]; exact ga
    · obtain ⟨p2, ys, e2, hp2, g2⟩ := hu u m
      by_cases e : p2 = p
      · subst e; exact ⟨p2, [], e2, hp2, upd_same⟩
      · exact ⟨p2, ys, e2, hp2, by rw [upd_ne e]; exact g2⟩
    · exact ⟨_, by show σ'.set s _ = _; rw [hy, List.set_set]⟩
  · obtain rfl : i = vs.length := by omega
    exact .inl ⟨⟨vs, .inl (.inl ga), Nat.le_refl _⟩, hk σ' H' c ⟨y', hy⟩⟩
end
end G

namespace L2
open PySem PySem.Spec PyProof.Rows
section
variable {prog : Program} {w : World} {A : Around} {E : Value → Shared → Prop} {s : Shared}
theorem collect_tupleA {l : Addr} {vs : List Value} {Q : List Value → Shared → Prop} (hl : s.heap.IsTuple l vs.toArray) (hsz : vs.length ≤ sizeLine)
    (h : Q vs { s with heap := (s.heap.push (seqObj "list" #[] 0)).update s.heap.objs.size (Obj.mapSeq (· ++ vs.toArray)) }) :
    wpAny (model prog w) A (collect (.ref l)) Q E s := by
  obtain ⟨o, ho, hc, n, hd⟩ := id hl
  unfold collect
  refine wpAny_bind (wpAny_runValue (codeAny_builtin entry_proto_collect' ?_))
  show wpAny _ _ (do again (.builtin "list.__iadd__" ⟨[← newList [], .ref l], []⟩)) _ _ s
  refine wpAny_bind (wpAny_newList (wpAny_pure ⟨Code.quiet_builtin _ (by decide +kernel), codeAny_builtin entry_list_iadd' ?_⟩))
  show wpAny _ _ (Builtin.List.listExtendWith (.ref s.heap.objs.size) (.ref l) (.ref s.heap.objs.size)) _ _ { s with heap := s.heap.push (seqObj "list" #[] 0) }
  unfold Builtin.List.listExtendWith
  have ho' : (s.heap.push (seqObj "list" #[] 0)).get? l = some o := Heap.get?_push_of_some _ ho
  refine wpAny_bind (wpAny_typeOf (T := "tuple") ⟨o, ho', hc⟩ ?_)
  have ht : (Value.type "tuple" == Value.type "tuple") = true := by rfl
  rw [if_pos (by rw [ht]; simp)]
  refine wpAny_bind (listItems_at ho' hd ?_)
  refine wpAny_bind (listItems_at (xs := #[]) (n := 0) (Heap.get?_push_size _ rfl) rfl ?_)
  rw [if_neg (by simp)]
  refine wpAny_bind (listUpdate_at (xs := #[]) (n := 0) (Heap.get?_push_size _ rfl) rfl ?_ (Nat.zero_le _) (by show (#[] ++ vs.toArray).size ≤ sizeLine + 1; simp only [Array.size_append, List.size_toArray, List.length_nil]; omega))
  refine wpAny_pure ?_
  show wpAny (model prog w) A (do
      let o ← load s.heap.objs.size
      match o.data with
      | .seq xs _ => pure xs.toList
      | _ => unsupported "internal:collect") Q E { s with heap := (s.heap.push (seqObj "list" #[] 0)).update s.heap.objs.size (Obj.mapSeq (· ++ vs.toArray)) }
  refine wpAny_bind (wpAny_load (get?_update_seq (Heap.get?_push_size _ rfl) _) ?_)
  show wpAny _ _ (pure ((#[] : Array Value) ++ vs.toArray).toList) Q E _
  rw [show ((#[] : Array Value) ++ vs.toArray).toList = vs by simp]
  exact wpAny_pure h
theorem sorted_ordT {l : Addr} {vs : List Value} {ltv : Value → Value → Bool} {Q : Value → Shared → Prop} (O : SrtO.Swo ltv) (hl : s.heap.IsTuple l vs.toArray) (hz : vs.length ≤ sizeLine)
    (hS : 2 ≤ vs.length → ∀ (h₁ : Heap) (a : Addr), h₁.get? a = some (seqObj "list" vs.toArray 0) → (∀ b o, s.heap.get? b = some o → b ≠ a ∧ h₁.get? b = some o) → SrtO.SortableO prog w A.in1.in1 { s with heap := h₁ } a vs ltv)
    (h : ∀ out : List Value, SrtO.Srtd ltv out → SrtO.Stb ltv out vs → Q (.ref (s.heap.objs.size + 1)) { s with heap := sortedAll s.heap vs out.toArray }) :
    wpAny (model prog w) A (call (.builtin "sorted") [.ref l]) Q E s := by
  refine Calls.call_function_entry kind_sorted plain_sorted entry_sorted (args_sorted1 _) ?_
  unfold Builtin.«sorted»
  refine wpAny_bind (m := checkCount "sorted" 1 1 _) (wpAny_pure ?_)
  refine wpAny_bind (collect_tupleA hl hz ?_)
  refine wpAny_bind (wpAny_newList ?_ hz)
  have hsz : ((s.heap.push (seqObj "list" #[] 0)).update s.heap.objs.size (Obj.mapSeq (· ++ vs.toArray))).objs.size = s.heap.objs.size + 1 := by
    rw [Heap.size_update, size_push']
  have hoL : (((s.heap.push (seqObj "list" #[] 0)).update s.heap.objs.size (Obj.mapSeq (· ++ vs.toArray))).push (seqObj "list" vs.toArray 0)).get? (s.heap.objs.size + 1) = some (seqObj "list" vs.toArray 0) := by
    rw [← hsz]; exact Heap.get?_push_size _ rfl
  have keep : ∀ b o, s.heap.get? b = some o → b ≠ s.heap.objs.size + 1 ∧ (((s.heap.push (seqObj "list" #[] 0)).update s.heap.objs.size (Obj.mapSeq (· ++ vs.toArray))).push (seqObj "list" vs.toArray 0)).get? b = some o := fun b o q => by
    have hlt : b < s.heap.objs.size := Heap.lt_size q
    refine ⟨Nat.ne_of_lt (Nat.lt_succ_of_lt hlt), Heap.get?_push_of_some _ ?_⟩
    rw [Heap.get?_update_ne _ _ _ _ (Nat.ne_of_lt hlt)]
    exact Heap.get?_push_of_some _ q
  show wpAny _ _ _ _ _ { s with heap := ((s.heap.push (seqObj "list" #[] 0)).update s.heap.objs.size (Obj.mapSeq (· ++ vs.toArray))).push (seqObj "list" vs.toArray 0) }
  rw [hsz]
  refine wpAny_bind (wpAny_holding (wpAny_call_entry slot_list_sort ⟨_, hoL, rfl⟩ entry_list_sort (SrtO.list_sort_ord O hoL hz (fun h2 => hS h2 _ _ hoL keep) fun out hs hb => ⟨_, rfl, ?_⟩) (args_list_sort _)))
  exact wpAny_pure ⟨_, rfl, h out hs hb⟩
theorem iter_intTup {l : Addr} {xs : Array (Int × Tok)} {Q : Value → Shared → Prop} (hl : s.heap.IsTuple l (intItems xs))
    (h : ∀ s₂ : Shared, s₂ = { s with heap := s.heap.push { cls := .type "tuple_iterator", data := .fields #[.ref l, .int 0 0] } } →
      (s₂.heap.IsTupleIter s.heap.objs.size l 0 ∧ s₂.heap.IsTuple l (intItems xs)) → (∀ b ∈ [s.heap.objs.size, l], b < s₂.heap.objs.size) → l ≠ s.heap.objs.size → Q (.ref s.heap.objs.size) s₂) :
    wpAny (model prog w) A (pyIter (.ref l)) Q E s := by
  have hlt : l < s.heap.objs.size := by obtain ⟨_, e, _⟩ := hl; exact Heap.lt_size e
  refine wpAny_pyIter_tuple hl (h _ rfl ⟨⟨_, Heap.get?_push_size _ rfl, rfl, rfl⟩, hl.push _⟩ (fun b hb => ?_) (Nat.ne_of_lt hlt))
  show b < (s.heap.push _).objs.size
  rw [Heap.size_push]
  rcases List.mem_cons.mp hb with rfl | hb
  · exact Nat.lt_succ_self _
  · rcases List.mem_cons.mp hb with rfl | hb
    · exact Nat.lt_succ_of_lt hlt
    · cases hb
theorem old_keptT {l : Addr} {h' : Heap} (hk : ∀ b o, b ∉ [s.heap.objs.size] → (s.heap.push { cls := .type "tuple_iterator", data := .fields #[.ref l, .int 0 0] }).get? b = some o → h'.get? b = some o) :
    ∀ b o, s.heap.get? b = some o → h'.get? b = some o := fun b o e => by
  refine hk b o (fun hm => ?_) (Heap.get?_push_of_some _ e)
  rcases List.mem_cons.mp hm with e1 | hm
  · exact absurd (e1 ▸ Heap.lt_size e) (Nat.lt_irrefl _)
  · cases hm
theorem max_intTup {l : Addr} {xs : Array (Int × Tok)} {Q : Value → Shared → Prop} (hh : A.handled = none) (hl : s.heap.IsTuple l (intItems xs)) (hne : 0 < xs.size)
    (h : ∀ v h' tk, (intItems xs)[argBest (fun i j => decide (numAt xs i > numAt xs j)) (xs.size - 1)]? = some v → (∀ b o, s.heap.get? b = some o → h'.get? b = some o) → Q v { s with heap := h', toks := tk }) :
    wpAny (model prog w) A (call (.builtin "max") [.ref l]) Q E s := by
  refine call_max_walk (iter_intTup hl fun s₂ e st hfp hlI => ?_)
  subst e
  refine ⟨_, _, _, _, _, _, _, rfl, Walks.tuple (A := A.in1) hh _ l hlI (intItems xs), st, hfp, by simpa [intItems] using hne, CmpOf.ints_gt (numAt xs) (fun _ _ => intItems_at), fun v h' tk hP hk => ?_⟩
  exact h v h' tk (by simpa [intItems] using hP) (old_keptT hk)
theorem min_intTup {l : Addr} {xs : Array (Int × Tok)} {Q : Value → Shared → Prop} (hh : A.handled = none) (hl : s.heap.IsTuple l (intItems xs)) (hne : 0 < xs.size)
    (h : ∀ v h' tk, (intItems xs)[argBest (fun i j => decide (numAt xs i < numAt xs j)) (xs.size - 1)]? = some v → (∀ b o, s.heap.get? b = some o → h'.get? b = some o) → Q v { s with heap := h', toks := tk }) :
    wpAny (model prog w) A (call (.builtin "min") [.ref l]) Q E s := by
  refine call_min_walk (iter_intTup hl fun s₂ e st hfp hlI => ?_)
  subst e
  refine ⟨_, _, _, _, _, _, _, rfl, Walks.tuple (A := A.in1) hh _ l hlI (intItems xs), st, hfp, by simpa [intItems] using hne, CmpOf.ints_lt (numAt xs) (fun _ _ => intItems_at), fun v h' tk hP hk => ?_⟩
  exact h v h' tk (by simpa [intItems] using hP) (old_keptT hk)
theorem max_rawT {l : Addr} {its : List Value} {ns : List Int} {Q : Value → Shared → Prop} (hh : A.handled = none) (hl : s.heap.IsTuple l its.toArray) (hi : IntsAre its ns) (hne : 0 < ns.length)
    (h : ∀ h' tk M t', (∀ b o, s.heap.get? b = some o → h'.get? b = some o) → M ∈ ns → (∀ a, a ∈ ns → a ≤ M) → Q (.int M t') { s with heap := h', toks := tk }) : wpAny (model prog w) A (call (.builtin "max") [.ref l]) Q E s := by
  obtain ⟨xs, e⟩ := hi.allInts.items
  have hn : numsOf (intItems xs).toList = ns := by rw [← e]; exact hi.numsOf
  rw [nums_intItems] at hn
  subst hn
  rw [e] at hl
  have hsz : 0 < xs.size := by simpa using hne
  refine max_intTup hh hl hsz fun v h' tk hv hk => ?_
  obtain ⟨t, rfl⟩ := intItems_at hv
  obtain ⟨h1, h2⟩ := argBest_gt (numAt xs) (xs.size - 1)
  refine h h' tk _ t hk ?_ fun a ha => ?_
  · rw [numAt_eq]; exact PySem.getD_mem (by rw [List.length_map, Array.length_toList]; omega)
  · obtain ⟨j, hj, rfl⟩ := mem_getD ha
    rw [List.length_map, Array.length_toList] at hj
    rw [← numAt_eq]; exact h2 j (by omega)
theorem min_rawT {l : Addr} {its : List Value} {ns : List Int} {Q : Value → Shared → Prop} (hh : A.handled = none) (hl : s.heap.IsTuple l its.toArray) (hi : IntsAre its ns) (hne : 0 < ns.length)
    (h : ∀ h' tk M t', (∀ b o, s.heap.get? b = some o → h'.get? b = some o) → M ∈ ns → (∀ a, a ∈ ns → M ≤ a) → Q (.int M t') { s with heap := h', toks := tk }) : wpAny (model prog w) A (call (.builtin "min") [.ref l]) Q E s := by
  obtain ⟨xs, e⟩ := hi.allInts.items
  have hn : numsOf (intItems xs).toList = ns := by rw [← e]; exact hi.numsOf
  rw [nums_intItems] at hn
  subst hn
  rw [e] at hl
  have hsz : 0 < xs.size := by simpa using hne
  refine min_intTup hh hl hsz fun v h' tk hv hk => ?_
  obtain ⟨t, rfl⟩ := intItems_at hv
  obtain ⟨h1, h2⟩ := argBest_lt (numAt xs) (xs.size - 1)
  refine h h' tk _ t hk ?_ fun a ha => ?_
  · rw [numAt_eq]; exact PySem.getD_mem (by rw [List.length_map, Array.length_toList]; omega)
  · obtain ⟨j, hj, rfl⟩ := mem_getD ha
    rw [List.length_map, Array.length_toList] at hj
    rw [← numAt_eq]; exact h2 j (by omega)
end
section
variable {X : Cx}
def rSortedIT (K : PySem.W.Frag) : List V → Hp → VK → Prop := fun vs H Q => ∃ (a : Addr) (ns : List Int), vs = [V.ref a] ∧ SqT K H a (ns.map V.int) ∧
  ∀ (ns' : List Int) (p : Addr), ns'.Perm ns → ns'.Pairwise (· ≤ ·) → H p = none → Q (.ref p) (upd H p (.lst (ns'.map V.int)))
def rMaxT (K : PySem.W.Frag) : List V → Hp → VK → Prop := fun vs H Q => ∃ (a : Addr) (ns : List Int), vs = [V.ref a] ∧ SqT K H a (ns.map V.int) ∧ 0 < ns.length ∧ ∀ m, m ∈ ns → (∀ y, y ∈ ns → y ≤ m) → Q (.int m) H
def rMinT (K : PySem.W.Frag) : List V → Hp → VK → Prop := fun vs H Q => ∃ (a : Addr) (ns : List Int), vs = [V.ref a] ∧ SqT K H a (ns.map V.int) ∧ 0 < ns.length ∧ ∀ m, m ∈ ns → (∀ y, y ∈ ns → m ≤ y) → Q (.int m) H
theorem cr_sortedIT : CallR X (.builtin "sorted") (rSortedIT X.K) := by
  intro pins s σ H vs us Q I r h
  obtain ⟨a, ns, rfl, hs, q⟩ := h
  obtain ⟨its, rv, hl, hz⟩ := I.tuple hs
  rw [Vals.ref1 r]
  have hi := rv.ints
  refine sorted_ordT SrtO.swo_int hl (by rw [← rv.length]; exact hz) (fun h2 h₁ a' _ _ => SrtO.ints_sortable hi h2) fun out h1 h2 => ?_
  obtain ⟨k1, k2, k3⟩ := SrtO.ints_out hi h1 h2
  obtain ⟨ep, he'⟩ := PyProof.Rows.sortedAll_at s.heap its out.toArray
  have hlen : ((out.map SrtO.iv).map V.int).length ≤ sizeLine := by
    rw [List.length_map, k2.length_eq]
    rw [List.length_map] at hz
    exact hz
  exact ⟨.ref _, upd H (s.heap.objs.size + 1) (.lst ((out.map SrtO.iv).map V.int)), I.laid (t' := s.toks) (fun _ _ => PyProof.Rows.sortedAll_old) (Nat.le_succ _) ⟨hlen, out, ep, vals_of_ints k1, he'⟩, rfl, q _ _ k2 k3 (I.hok.fresh (Nat.le_succ _))⟩
theorem cr_maxT (hc : X.calm = true) : CallR X (.builtin "max") (rMaxT X.K) := by
  intro pins s σ H vs us Q I r h
  obtain ⟨a, ns, rfl, hs, hne, q⟩ := h
  obtain ⟨its, rv, hl, _⟩ := I.tuple hs
  rw [Vals.ref1 r]
  exact max_rawT (I.ok.hd hc) hl rv.ints hne fun h' tk m t' hk h1 h2 => ⟨.int _, H, I.kept hk, ⟨_, rfl⟩, q m h1 h2⟩
theorem cr_minT (hc : X.calm = true) : CallR X (.builtin "min") (rMinT X.K) := by
  intro pins s σ H vs us Q I r h
  obtain ⟨a, ns, rfl, hs, hne, q⟩ := h
  obtain ⟨its, rv, hl, _⟩ := I.tuple hs
  rw [Vals.ref1 r]
  exact min_rawT (I.ok.hd hc) hl rv.ints hne fun h' tk m t' hk h1 h2 => ⟨.int _, H, I.kept hk, ⟨_, rfl⟩, q m h1 h2⟩
end
end L2
namespace Mi
theorem foldmin (xs : List Int) : ∀ a : Int, (xs.foldl min a = a ∨ xs.foldl min a ∈ xs) ∧ xs.foldl min a ≤ a ∧ ∀ y ∈ xs, xs.foldl min a ≤ y := by
  induction xs with
  | nil => intro a; exact ⟨.inl rfl, Int.le_refl _, fun y h => nomatch h⟩
  | cons x xs ih =>
    intro a
    obtain ⟨h1, h2, h3⟩ := ih (min a x)
    show (xs.foldl min (min a x) = a ∨ _) ∧ xs.foldl min (min a x) ≤ a ∧ _
    refine ⟨?_, by omega, fun y hy => ?_⟩
    · rcases h1 with h1 | h1
      · by_cases hax : a ≤ x
        · exact .inl (by rw [h1]; omega)
        · refine .inr (List.mem_cons.mpr (.inl ?_)); show xs.foldl min (min a x) = x; rw [h1]; omega
      · exact .inr (List.mem_cons_of_mem _ h1)
    · show xs.foldl min (min a x) ≤ y
      rcases List.mem_cons.mp hy with rfl | hy
      · omega
      · exact h3 y hy
theorem foldmax (xs : List Int) : ∀ a : Int, (xs.foldl max a = a ∨ xs.foldl max a ∈ xs) ∧ a ≤ xs.foldl max a ∧ ∀ y ∈ xs, y ≤ xs.foldl max a := by
  induction xs with
  | nil => intro a; exact ⟨.inl rfl, Int.le_refl _, fun y h => nomatch h⟩
  | cons x xs ih =>
    intro a
    obtain ⟨h1, h2, h3⟩ := ih (max a x)
    show (xs.foldl max (max a x) = a ∨ _) ∧ a ≤ xs.foldl max (max a x) ∧ _
    refine ⟨?_, by omega, fun y hy => ?_⟩
    · rcases h1 with h1 | h1
      · by_cases hax : x ≤ a
        · exact .inl (by rw [h1]; omega)
        · refine .inr (List.mem_cons.mpr (.inl ?_)); show xs.foldl max (max a x) = x; rw [h1]; omega
      · exact .inr (List.mem_cons_of_mem _ h1)
    · show y ≤ xs.foldl max (max a x)
      rcases List.mem_cons.mp hy with rfl | hy
      · omega
      · exact h3 y hy
theorem lMin_spec {xs : List Int} {m : Int} (h : lMin xs = some m) : 0 < xs.length ∧ m ∈ xs ∧ ∀ y ∈ xs, m ≤ y := by
  cases xs with
  | nil => cases h
  | cons x xs =>
    obtain rfl : (x :: xs).foldl min x = m := Option.some.inj h
    obtain ⟨h1, h2, h3⟩ := foldmin (x :: xs) x
    refine ⟨Nat.succ_pos _, ?_, h3⟩
    rcases h1 with h1 | h1
    · rw [h1]; exact List.mem_cons_self ..
    · exact h1
theorem lMax_spec {xs : List Int} {m : Int} (h : lMax xs = some m) : 0 < xs.length ∧ m ∈ xs ∧ ∀ y ∈ xs, y ≤ m := by
  cases xs with
  | nil => cases h
  | cons x xs =>
    obtain rfl : (x :: xs).foldl max x = m := Option.some.inj h
    obtain ⟨h1, h2, h3⟩ := foldmax (x :: xs) x
    refine ⟨Nat.succ_pos _, ?_, h3⟩
    rcases h1 with h1 | h1
    · rw [h1]; exact List.mem_cons_self ..
    · exact h1
end Mi
namespace G
open PySem PySem.Spec PyProof.Rows L2
section
variable {X : Cx} {K : PySem.W.Frag} {σ σ' : L2.St} {H : Hp} {F : List Addr} {v : V} {Q : VK} {m : Int}
theorem cl_sortedT {K : PySem.W.Frag} (e : X.K = K := by rfl) : CallR X (.builtin "sorted") (rSortedIT K) := by subst e; exact cr_sortedIT
theorem w_sortedT {xs : List Int} (r : (yTupL yInt).rep K H F v xs) (k : ∀ p H', H p = none → Chg [] H H' → (yLst yInt).rep K H' [p] (.ref p) (Mi.sortI xs) → Q (.ref p) H') : rSortedIT K [v] H Q := by
  obtain ⟨p, rfl, s⟩ := ints_sqT r
  refine ⟨p, xs, rfl, s, fun ns q pm so nq => ?_⟩
  rw [sorted_unique (pm.trans (sortI_perm xs).symm) so (sortI_sorted xs)]
  exact k q _ nq (Chg.new nq) ⟨q, _, rfl, rfl, upd_same, ints_mk _⟩
theorem cl_maxT {K : PySem.W.Frag} (hc : X.calm = true) (e : X.K = K := by rfl) : CallR X (.builtin "max") (rMaxT K) := by subst e; exact cr_maxT hc
theorem cl_minT {K : PySem.W.Frag} (hc : X.calm = true) (e : X.K = K := by rfl) : CallR X (.builtin "min") (rMinT K) := by subst e; exact cr_minT hc
theorem cl_maxL {K : PySem.W.Frag} (hc : X.calm = true) (e : X.K = K := by rfl) : CallR X (.builtin "max") (rMax K) := by subst e; exact cr_max hc
theorem cl_minL {K : PySem.W.Frag} (hc : X.calm = true) (e : X.K = K := by rfl) : CallR X (.builtin "min") (rMin K) := by subst e; exact cr_min hc
theorem cl_sumL {K : PySem.W.Frag} (hc : X.calm = true) (e : X.K = K := by rfl) : CallR X (.builtin "sum") (rSum K) := by subst e; exact cr_sum hc
theorem w_maxT {xs : List Int} (r : (yTupL yInt).rep K H F v xs) (h : Mi.lMax xs = some m) (k : Q (.int m) H) : rMaxT K [v] H Q := by
  obtain ⟨p, rfl, s⟩ := ints_sqT r
  obtain ⟨h1, h2, h3⟩ := Mi.lMax_spec h
  exact ⟨p, xs, rfl, s, h1, fun z hz ha => by rw [show z = m from Int.le_antisymm (h3 z hz) (ha m h2)]; exact k⟩
theorem w_minT {xs : List Int} (r : (yTupL yInt).rep K H F v xs) (h : Mi.lMin xs = some m) (k : Q (.int m) H) : rMinT K [v] H Q := by
  obtain ⟨p, rfl, s⟩ := ints_sqT r
  obtain ⟨h1, h2, h3⟩ := Mi.lMin_spec h
  exact ⟨p, xs, rfl, s, h1, fun z hz ha => by rw [show z = m from Int.le_antisymm (ha m h2) (h3 z hz)]; exact k⟩
theorem w_maxL {xs : List Int} (r : (yLst yInt).rep K H F v xs) (h : Mi.lMax xs = some m) (k : Q (.int m) H) : rMax K [v] H Q := by
  obtain ⟨p, rfl, s⟩ := ints_sqL r
  obtain ⟨h1, h2, h3⟩ := Mi.lMax_spec h
  exact ⟨p, xs, rfl, s, h1, fun z hz ha => by rw [show z = m from Int.le_antisymm (h3 z hz) (ha m h2)]; exact k⟩
theorem w_minL {xs : List Int} (r : (yLst yInt).rep K H F v xs) (h : Mi.lMin xs = some m) (k : Q (.int m) H) : rMin K [v] H Q := by
  obtain ⟨p, rfl, s⟩ := ints_sqL r
  obtain ⟨h1, h2, h3⟩ := Mi.lMin_spec h
  exact ⟨p, xs, rfl, s, h1, fun z hz ha => by rw [show z = m from Int.le_antisymm (ha m h2) (h3 z hz)]; exact k⟩
theorem w_sumL {xs : List Int} (r : (yLst yInt).rep K H F v xs) (k : Q (.int xs.sum) H) : rSum K [v] H Q := by
  obtain ⟨p, rfl, s⟩ := ints_sqL r
  exact ⟨p, xs, rfl, s, k⟩
end
/-! ### defaults that are tuples -/
def kwdAt (f : Str × Option Str) (x : Str) (K : PySem.W.Frag) : Addr := match K.lookup (He.fAd K f) with
  | some ⟨_, _, .func fd, _⟩ => (match fd.kwdefaults with
    | .ref D => (match PySem.W.nsIn K D x with
      | some (some (.ref a)) => a
      | _ => 0)
    | _ => 0)
  | _ => 0
def tupAt (K : PySem.W.Frag) (a : Addr) (vs : List He.Dv) : Bool := match K.lookup a with
  | some ⟨.type c, _, .seq its _, _⟩ => decide (c = "tuple") && (decide (its.size ≤ sizeLine) && He.relAll (vs.map (He.Dv.v K)) its.toList)
  | _ => false
theorem tupAt_ok {K : PySem.W.Frag} {a : Addr} {vs : List He.Dv} (h : tupAt K a vs = true) (H : Hp) : SqT K H a (vs.map (He.Dv.v K)) := by
  unfold tupAt at h
  cases q : K.lookup a with
  | none =>
    rw [q] at h
    cases h
  | some o =>
    obtain ⟨oc, od, dt, osl⟩ := o
    rw [q] at h
    cases oc with
    | type c =>
      cases dt with
      | seq its n =>
        obtain ⟨h1, h2⟩ := He.ba (show (decide (c = "tuple") && (decide (its.size ≤ sizeLine) && He.relAll (vs.map (He.Dv.v K)) its.toList)) = true from h)
        obtain ⟨h3, h4⟩ := He.ba h2
        exact .inr ⟨_, its, n, q, congrArg Value.type (of_decide_eq_true h1), rfl, of_decide_eq_true h3, He.relAll_ok h4⟩
      | _ => cases h
    | _ => cases dt <;> cases h
theorem tupAt_ints {K : PySem.W.Frag} {a : Addr} {ns : List Int} (h : tupAt K a (ns.map He.Dv.int) = true) (H : Hp) : (yTupL yInt).rep K H [] (.ref a) ns :=
  ⟨a, ns.map V.int, rfl, rfl, by have := tupAt_ok h H; rw [List.map_map] at this; exact this, ints_mk ns⟩
def permG (ix : List Nat) {α : Type} (us mv ws : List α) : List α := ix.filterMap fun i => (us ++ (mv ++ ws))[i]?
theorem vals_at {vs : List V} {us : List Value} (r : Vals vs us) (i : Nat) : (vs[i]? = none ∧ us[i]? = none) ∨ ∃ v u, vs[i]? = some v ∧ us[i]? = some u ∧ RelV v u := by
  induction r generalizing i with
  | nil => exact .inl ⟨rfl, rfl⟩
  | cons h t ih =>
    cases i with
    | zero => exact .inr ⟨_, _, rfl, rfl, h⟩
    | succ i => exact ih i
theorem vals_app {vs zs : List V} {us ws : List Value} (r : Vals vs us) (q : Vals zs ws) : Vals (vs ++ zs) (us ++ ws) := by
  induction r with
  | nil => exact q
  | cons h t ih => exact .cons h ih
theorem permG_rel (ix : List Nat) {vs mz zs : List V} {us mv ws : List Value} (r1 : Vals vs us) (r2 : Vals mz mv) (r3 : Vals zs ws) : Vals (permG ix vs mz zs) (permG ix us mv ws) := by
  have r := vals_app r1 (vals_app r2 r3)
  unfold permG
  induction ix with
  | nil => exact .nil
  | cons i ix ih =>
    rcases vals_at r i with ⟨e1, e2⟩ | ⟨v, u, e1, e2, h⟩
    · rw [List.filterMap_cons_none e1, List.filterMap_cons_none e2]; exact ih
    · rw [List.filterMap_cons_some e1, List.filterMap_cons_some e2]; exact .cons h ih
/-! ### the head's hook with a check of one's own -/
def obsEG (n : Nat) (fa : List He.Fa) (fn : List He.DefD) (ex : PySem.W.Frag → Bool) (g : Addr → Option Obj) : He.AlD × Bool := (He.obsD fa fn (He.frG g (He.asD g n)), ex (He.frG g (He.asD g n)))
def hookE (n : Nat) (fa : List He.Fa) (fn : List He.DefD) (ex : PySem.W.Frag → Bool) : PySem.W.Hook where
  α := He.AlD × Bool
  obs := fun s => obsEG n fa fn ex s.heap.get?
  val := fun _ => (He.valD fn, true)
  says := fun _ h => ∃ K : PySem.W.Frag, K.In h ∧ (He.SaysD fa fn K ∧ ex K = true)
  of := fun _ _ e => ⟨_, He.frG_in, congrArg Prod.fst e, congrArg Prod.snd e⟩
  keeps := fun _ _ _ ⟨K, hK, c⟩ k => ⟨K, PySem.W.Frag.In.keeps hK k, c⟩
theorem obsEG_eq {n : Nat} {fa : List He.Fa} {fn : List He.DefD} {ex : PySem.W.Frag → Bool} {g : Addr → Option Obj} {s : Shared} (h : ∀ a, g a = s.heap.get? a) : obsEG n fa fn ex g = (hookE n fa fn ex).obs s := by
  have e : g = s.heap.get? := funext h
  rw [e] <;> rfl
end G

namespace G
open PySem PySem.Spec PyProof.Rows L2
section
variable {X : Cx} {P : Program} {w : World} {K : PySem.W.Frag} {σ σ' : L2.St} {H : Hp} {F F1 F2 Fu : List Addr} {ta tb te to : TE} {v u x y : V} {i j : Int} {Q : VK} {α : Type} {τ : Ty α} {n : Nat}
/-! ### x in a list of data -/
theorem units1 {k : Nat} {A : Around} (r : Room k A) : A.units + 65 < cLine := by have := r.un; omega
theorem op_in_d {K : PySem.W.Frag} (hu : X.A.units + 65 < cLine) (e : X.K = K := by rfl) : OpR X (compareOp .In) (rInD K) := by subst e; exact op_inD hu
theorem op_ni_d {K : PySem.W.Frag} (hu : X.A.units + 65 < cLine) (e : X.K = K := by rfl) : OpR X (compareOp .NotIn) (rNotInD K) := by subst e; exact op_notInD hu
theorem any_eqv [BEq α] [LawfulBEq α] (d : Dat τ n) (xs : List α) (x : α) : ((xs.map d.f).any fun z => PyData.eqv z (d.f x)) = xs.contains x := by
  letI := d.dec
  induction xs with
  | nil => rfl
  | cons y ys ih =>
    rw [List.map_cons, List.any_cons, ih, d.eqv, List.contains_cons]
    congr 1
    by_cases e : y = x
    · subst e; simp
    · rw [decide_eq_false e, beq_eq_false_iff_ne.mpr (Ne.symm e)]
theorem w_inD [BEq α] [LawfulBEq α] {xs : List α} {d : α} (D : Dat τ n) (r : (yLst τ).rep K H F v xs) (q : τ.rep K H F2 u d) (k : Q (.bl (xs.contains d)) H) (hn : n + 1 ≤ 64 := by decide) : rInD K u v H Q :=
  ⟨_, _, D.dp q, (dat_lst D).dp r, D.shaped (by omega) d, (dat_lst D).shaped hn xs, by rw [any_eqv]; exact k⟩
theorem w_niD [BEq α] [LawfulBEq α] {xs : List α} {d : α} (D : Dat τ n) (r : (yLst τ).rep K H F v xs) (q : τ.rep K H F2 u d) (k : Q (.bl (!xs.contains d)) H) (hn : n + 1 ≤ 64 := by decide) : rNotInD K u v H Q :=
  ⟨_, _, D.dp q, (dat_lst D).dp r, D.shaped (by omega) d, (dat_lst D).shaped hn xs, by rw [any_eqv]; exact k⟩
theorem w_inDG [BEq α] [LawfulBEq α] {xs : List α} {d : α} (D : Dat τ n) (r : (yLsg τ).rep K H F v xs) (q : τ.rep K H F2 u d) (k : Q (.bl (xs.contains d)) H) (hn : n + 1 ≤ 64 := by decide) : rInD K u v H Q :=
  ⟨_, _, D.dp q, (dat_lsg D).dp r, D.shaped (by omega) d, (dat_lsg D).shaped hn xs, by rw [any_eqv]; exact k⟩
theorem w_niDG [BEq α] [LawfulBEq α] {xs : List α} {d : α} (D : Dat τ n) (r : (yLsg τ).rep K H F v xs) (q : τ.rep K H F2 u d) (k : Q (.bl (!xs.contains d)) H) (hn : n + 1 ≤ 64 := by decide) : rNotInD K u v H Q :=
  ⟨_, _, D.dp q, (dat_lsg D).dp r, D.shaped (by omega) d, (dat_lsg D).shaped hn xs, by rw [any_eqv]; exact k⟩
/-! ### a pair as a tuple of ints -/
theorem pair_tupl {d : Int × Int} (r : yPair.rep K H F v d) : (yTupL yInt).rep K H [] v [d.1, d.2] := by
  obtain ⟨rfl, a, rfl, s⟩ := pair_sq r
  exact ⟨a, _, rfl, rfl, s, .cons ⟨rfl, rfl⟩ (.cons ⟨rfl, rfl⟩ .nil)⟩
/-! ### any, all -/
theorem bools_sqL {xs : List Bool} (r : (yLst yBool).rep K H F v xs) : ∃ a, v = .ref a ∧ SqL K H a (xs.map V.bl) := by
  obtain ⟨a, vs, rfl, s, q⟩ := lst_sq r
  have e : vs = xs.map V.bl := by
    clear s r
    induction q with
    | nil => rfl
    | cons h t ih => obtain ⟨_, rfl⟩ := h; rw [ih]; rfl
  subst e
  exact ⟨a, rfl, s⟩
theorem cl_anyL {K : PySem.W.Frag} (hc : X.calm = true) (e : X.K = K := by rfl) : CallR X (.builtin "any") (rAny K) := by subst e; exact cr_any hc
theorem cl_allL {K : PySem.W.Frag} (hc : X.calm = true) (e : X.K = K := by rfl) : CallR X (.builtin "all") (rAll K) := by subst e; exact cr_all hc
theorem w_anyL {xs : List Bool} (r : (yLst yBool).rep K H F v xs) (k : Q (.bl (xs.any id)) H) : rAny K [v] H Q := by
  obtain ⟨a, rfl, s⟩ := bools_sqL r
  exact ⟨a, xs, rfl, s, k⟩
theorem w_allL {xs : List Bool} (r : (yLst yBool).rep K H F v xs) (k : Q (.bl (xs.all id)) H) : rAll K [v] H Q := by
  obtain ⟨a, rfl, s⟩ := bools_sqL r
  exact ⟨a, xs, rfl, s, k⟩
/-! ### list * int -/
theorem pr_rep {R : V → α → Prop} {vs : List V} {xs : List α} (q : Paired R vs xs) : ∀ k : Nat, Paired R (List.replicate k vs).flatten (List.replicate k xs).flatten
  | 0 => .nil
  | k + 1 => by
    rw [List.replicate_succ, List.replicate_succ, List.flatten_cons, List.flatten_cons]
    exact pr_app q (pr_rep q k)
theorem w_rep {xs zs : List α} (r : (yLst τ).rep K H F v xs) (hm : Mi.repL xs i = some zs) (k : ∀ p H', H p = none → Chg [] H H' → (yLst τ).rep K H' [p] (.ref p) zs → Q (.ref p) H') : rRep v (.int i) H Q := by
  obtain ⟨a, vs, rfl, rfl, g, q⟩ := r
  unfold Mi.repL at hm
  split at hm
  · rename_i hc
    obtain rfl := Option.some.inj hm
    refine ⟨a, i, vs, rfl, rfl, g, by omega, by omega, ?_, fun p np => k p _ np (Chg.new np) ⟨p, _, rfl, rfl, upd_same, ?_⟩⟩
    · rw [Paired.length q]
      exact Nat.le_trans hc.2.2 (by rw [sizeLine_eq]; decide)
    · exact pr_rep (Paired.mapP q fun _ _ z => Ty.ex z (Chg.new np)) i.toNat
  · cases hm
/-! ### list(range(..)) -/
theorem w_lrng1 (h : ta σ H fun x H1 => ∃ n, x = .int n ∧ (RgOk 0 n ∧ ∀ q, H1 q = none → Q (.ref q) (upd H1 q (.lst (rgV 0 n))))) : tLstRg (tRg1 ta) σ H Q := h
theorem w_lrng2 (h : ta σ H fun x H1 => tb σ H1 fun y H2 => ∃ i j, x = .int i ∧ y = .int j ∧ (RgOk i j ∧ ∀ q, H2 q = none → Q (.ref q) (upd H2 q (.lst (rgV i j))))) : tLstRg (tRg2 ta tb) σ H Q := h
theorem rg_ints (a b : Int) : Paired (fun u x => yInt.rep K H [] u x) (rgV a b) (Mi.rng a b) := by
  unfold rgV Mi.rng
  induction List.range (b - a).toNat with
  | nil => exact .nil
  | cons k ks ih => exact .cons ⟨rfl, rfl⟩ ih
theorem rgL_ok {lo hi : Int} {xs : List Int} (hm : Mi.rngL lo hi = some xs) : RgOk lo hi ∧ xs = Mi.rng lo hi := by
  unfold Mi.rngL at hm
  split at hm
  · exact ⟨⟨by omega, by omega, by omega, by omega, by omega⟩, (Option.some.inj hm).symm⟩
  · cases hm
theorem x_lrng {lo hi : Int} {xs : List Int} (hm : Mi.rngL lo hi = some xs) (k : ∀ p H', H p = none → Chg [] H H' → (yLst yInt).rep K H' [p] (.ref p) xs → Q (.ref p) H') : RgOk lo hi ∧ ∀ q, H q = none → Q (.ref q) (upd H q (.lst (rgV lo hi))) := by
  obtain ⟨h1, rfl⟩ := rgL_ok hm
  exact ⟨h1, fun q nq => k q _ nq (Chg.new nq) ⟨q, _, rfl, rfl, upd_same, rg_ints lo hi⟩⟩
theorem x_lrng1 {hi : Int} {xs : List Int} (hm : Mi.rngL 0 hi = some xs) (k : ∀ p H', H p = none → Chg [] H H' → (yLst yInt).rep K H' [p] (.ref p) xs → Q (.ref p) H') : ∃ n, V.int hi = .int n ∧ (RgOk 0 n ∧ ∀ q, H q = none → Q (.ref q) (upd H q (.lst (rgV 0 n)))) := ⟨hi, rfl, x_lrng hm k⟩
theorem x_lrng2 {lo hi : Int} {xs : List Int} (hm : Mi.rngL lo hi = some xs) (k : ∀ p H', H p = none → Chg [] H H' → (yLst yInt).rep K H' [p] (.ref p) xs → Q (.ref p) H') : ∃ i j, V.int lo = .int i ∧ V.int hi = .int j ∧ (RgOk i j ∧ ∀ q, H q = none → Q (.ref q) (upd H q (.lst (rgV i j)))) := ⟨lo, hi, rfl, rfl, x_lrng hm k⟩
theorem Ty.freshOr {G Fp : List Addr} {d : α} (r : τ.rep K H F v d) (np : ∀ a ∈ G, H a = none ∨ a ∈ Fp) (dj : Dj F Fp) : Dj F G := fun a h z => by
  rcases np a z with e | e
  · obtain ⟨o, e2, _⟩ := τ.dom r a h
    rw [e] at e2; cases e2
  · exact dj a h e
/-! ### defs with defaults -/
theorem w_callN {n m : Nat} {sp : Sp} {gV : List V → List V → List V} {E : XK} {t tk : TA} (h : t σ H fun vs H1 => tk σ H1 fun zs H2 => vs.length = n ∧ zs.length = m ∧ sp (gV vs zs) H2 Q E) : tCallN n m sp gV E t tk σ H Q := h
end
structure DfnD (K : PySem.W.Frag) (mg : Str → Option Value) (x : Str) (st : Stmt) (dvs : List V) : Prop where
  ex : ∃ f fd, FunD K x x (defArgs st) (defBody st) (defScope st) dvs [] f fd ∧ mg x = some (.ref f)
structure CalD (P : Program) (w : World) (K : PySem.W.Frag) (mg : Str → Option Value) (x : Str) (st : Stmt) (dvs : List V) (ps : List Str) (k : Nat) (sp : Sp) : Prop where
  ex : ∃ f fd, mg x = some (.ref f) ∧ FunD K x x (defArgs st) (defBody st) (defScope st) dvs [] f fd ∧ ∀ base : Heap, FnOk P w K mg base CX0 k f fd ps sp
end G

namespace G
open PySem PySem.Spec PyProof.Rows L2
def topS (i : Nat) : Stmt := PySem.Challenge.pw_fogfleet_k02_neighbours_of_a_place.main.body.getD i (.Pass ⟨0, 0, 0, 0⟩)
structure Cs (K : PySem.W.Frag) (mg : Str → Option Value) : Prop where
  c_GREATEST_DEPTH : ∃ t, mg "GREATEST_DEPTH" = some (.int 99 t)
  c_GREATEST_TIDE : ∃ t, mg "GREATEST_TIDE" = some (.int 20 t)
  c_MOST_PLACES : ∃ t, mg "MOST_PLACES" = some (.int 12 t)
  c_MOST_TIDE_NUMBERS : ∃ t, mg "MOST_TIDE_NUMBERS" = some (.int 12 t)
  d_Chart_tide : ∀ H, (yTupL yInt).rep K H [] (.ref (kwdAt ("Chart", some "__init__") "tide" K)) ([0] : List Int)
  d_Chart_harbours : ∀ H, (yTupL yInt).rep K H [] (.ref (kwdAt ("Chart", some "__init__") "harbours" K)) ([] : List Int)
abbrev nm_Chart : List Str := ["size", "depths", "lanes", "tide", "harbours", "joined"]
abbrev ty_Chart : Tys (Int × (List Int) × (List (Int × Int)) × (List Int) × (List Int) × (List (List Int))) := (sCons yInt (sCons (yTupL yInt) (sCons (yTupL (yTup (sCons yInt (sOne yInt)))) (sCons (yTupL yInt) (sCons (yTupL yInt) (sOne (yTupL (yTupL yInt))))))))
abbrev kw_Chart (K : PySem.W.Frag) : List (Str × V) := [("tide", .ref (kwdAt ("Chart", some "__init__") "tide" K)), ("harbours", .ref (kwdAt ("Chart", some "__init__") "harbours" K))]
section
variable {P : Program} {w : World} {K : PySem.W.Frag} {mg : Str → Option Value}
abbrev s_is_zone : Stmt := topS 5
abbrev N_is_zone : List Str := ["zone", "size", "found", "place"]
theorem sc_is_zone : FnScope ["zone", "size", "found", "place"] ["zone", "size"] (defScope s_is_zone) := ⟨rfl, rfl, rfl, by decide +kernel, rfl, by decide +kernel, by decide +kernel⟩
def sp_is_zone (K : PySem.W.Frag) : Sp := fun vs H Q _ => (∃ (v0 : V) (F0 : List Addr) (d0 : (List Int)) (d1 : Int) (r : Bool), vs = [v0, (.int d1)] ∧ (yLst yInt).rep K H F0 v0 d0 ∧ Mi.m_is_zone_0 d0 d1 = some r ∧ ∀ H', Chg ([]) H H' → Q (.bl r) H') ∨ (∃ (v0 : V) (d0 : (List Int)) (d1 : Int) (r : Bool), vs = [v0, (.int d1)] ∧ (yTupL yInt).rep K H [] v0 d0 ∧ Mi.m_is_zone_1 d0 d1 = some r ∧ ∀ H', Chg ([]) H H' → Q (.bl r) H')
theorem ok_is_zone (B : Bi mg) (CN : Cs K mg) (D : Dfn K mg "is_zone" s_is_zone)  : Cal P w K mg "is_zone" ["zone", "size"] 1 (sp_is_zone K) := by
  obtain ⟨f, fd, F, g⟩ := D.ex
  refine ⟨f, fd, g, F.kp, bindsF F (fun _ _ _ _ _ _ us hl => match us, hl with | [_, _], _ => rfl), fun base => F.ok sc_is_zone (fun vs H Q E h => ?_) (fun cdv A outer s H0 vs Q E hr h => ?_)⟩
  · rcases h with ⟨v0, F0, d0, d1, r, rfl, r0, hm, hQ⟩ | ⟨v0, d0, d1, r, rfl, r0, hm, hQ⟩
    all_goals rfl
  · rcases h with h | h
    ·
      obtain ⟨v0, F0, d0, d1, r, rfl, r0, hm, hQ⟩ := h
      refine ⟨_, pss_cons (ps_set (i := 2) sc_is_zone.nd rfl (.inl rfl) (pe_callTy0 (cl_set0 (w := w)) (by rfl) B.set (by decide +kernel)))
      (pss_cons (ps_for PassesOwn.never rfl (pi_list (pv 0)) (pg_name (i := 3) sc_is_zone.nd rfl (.inl rfl)) (pss_cons (ps_if (PW.pt (pw_or (pt_cmpR op_lt (pv 3) pe_int (nomark _)) (pw_or (pt_cmpR op_ge (pv 3) (pv 1) (nomark _)) (pw_or1 (pt_cmpR (op_in_s (w := w)) (pv 3) (pv 2) (by rfl)))))) (pss_cons (ps_ret pe_bl) pss_nil) (pss_nil))
      (pss_cons (ps_expr (pe_sadd (pv 2) (pa_cons (pv 3) pa_nil)))
      (pss_nil))))
      (pss_cons (ps_ret pe_bl) pss_nil)), ?_⟩
      have c0 : Chg ([] : List Addr) H0 H0 := Chg.refl H0
      unfold Mi.m_is_zone_0 at hm
      refine q_asg ?_
      refine w_cb ?_
      refine w_nil ?_
      refine w_set0 (K := K) (w := w) fun p1 H5 np4 c2 r3 => ?_
      have d6 : Dj F0 [p1] := Ty.nin r0 np4
      have n7 : ∀ a ∈ [p1], H0 a = none := one_fresh (c0.dom p1 np4)
      have r0 := Ty.ex r0 c2
      have c0 := c0.trans c2.none
      refine g_name (σ' := [some v0, some (.int d1), some (.ref p1), none]) rfl ?_
      refine q_for ?_
      refine w_iList ?_
      refine c_val (val_var rfl) ?_
      obtain ⟨e8, he8, hm⟩ := Mi.bnd hm
      refine l_lst r0 (fun i σ' H' => ∃ (s9 : (List Int)) (y10 : Option V), σ' = [some v0, some (.int d1), some (.ref p1), y10] ∧ Chg ([] : List Addr) H0 H' ∧ (yLst yInt).rep K H' F0 v0 d0 ∧ (ySet w).rep K H' [p1] (.ref p1) s9 ∧ Mi.forR (Mi.m_is_zone_0_b1 d1) s9 (List.drop i d0) = some e8) ⟨([] : List Int), none, rfl, c0, r0, r3, he8⟩ (fun i σ' H' hp => by obtain ⟨s9, y10, rfl, c0, r0, r3, _⟩ := hp; exact r0) (fun i13 x12 u14 σ' H' hx11 r15 hp => ?_) (fun σ' H' hp => ?_)
      ·
        obtain ⟨s9, y10, rfl, c0, r0, r3, hle8⟩ := hp
        obtain ⟨o16, hbe8, hore8⟩ := Mi.forR_go hle8 hx11
        unfold Mi.m_is_zone_0_b1 at hbe8
        obtain ⟨_, rfl⟩ := r15
        refine g_name (σ' := [some v0, some (.int d1), some (.ref p1), some (.int x12)]) rfl ?_
        refine q_if (ans_orB (ans_t (val_lt (val_var rfl) val_c)) (fun _ => (ans_orB (ans_t (val_ge (val_var rfl) (val_var rfl))) (fun _ => (ans_t (val_inS r3 (val_var rfl) (val_var rfl))))))) (fun hb => ?_) (fun hb => ?_)
        ·
          replace hbe8 := Mi.ifT hb hbe8
          refine q_ret ?_
          refine c_val val_c ?_
          obtain rfl := Option.some.inj hbe8
          obtain rfl := Mi.or_inl hore8
          obtain rfl := Option.some.inj (Mi.orR_inl hm)
          exact hQ _ c0 
        replace hbe8 := Mi.ifF hb hbe8
        refine w_fall ?_
        refine q_drop (w_sadd (c_val (val_var rfl) ⟨tyv_set r3, ?_⟩))
        refine w_args (va_cons (val_var rfl) va_nil) ?_
        obtain ⟨x19, hx19, hbe8⟩ := Mi.bnd hbe8
        refine m_sadd r3 hx19 fun H21 c20 r3 => ?_
        have r0 := Ty.chg r0 c20 d6
        have c0 := c0.join c20 (fun a h => .inr (n7 a h))
        refine w_nextJ ?_
        obtain rfl := Option.some.inj hbe8
        replace hore8 := Mi.or_inr hore8
        exact ⟨_, (some (.int x12)), rfl, c0, r0, r3, hore8⟩
      obtain ⟨s9, y10, rfl, c0, r0, r3, hle8⟩ := hp
      obtain rfl := Mi.forR_end hle8
      replace hm := Mi.orR_inr hm
      refine q_ret ?_
      refine c_val val_c ?_
      obtain rfl := Option.some.inj hm
      exact hQ _ c0 
    ·
      obtain ⟨v0, d0, d1, r, rfl, r0, hm, hQ⟩ := h
      refine ⟨_, pss_cons (ps_set (i := 2) sc_is_zone.nd rfl (.inl rfl) (pe_callTy0 (cl_set0 (w := w)) (by rfl) B.set (by decide +kernel)))
      (pss_cons (ps_for PassesOwn.never rfl (pi_tup (pv 0)) (pg_name (i := 3) sc_is_zone.nd rfl (.inl rfl)) (pss_cons (ps_if (PW.pt (pw_or (pt_cmpR op_lt (pv 3) pe_int (nomark _)) (pw_or (pt_cmpR op_ge (pv 3) (pv 1) (nomark _)) (pw_or1 (pt_cmpR (op_in_s (w := w)) (pv 3) (pv 2) (by rfl)))))) (pss_cons (ps_ret pe_bl) pss_nil) (pss_nil))
      (pss_cons (ps_expr (pe_sadd (pv 2) (pa_cons (pv 3) pa_nil)))
      (pss_nil))))
      (pss_cons (ps_ret pe_bl) pss_nil)), ?_⟩
      have c0 : Chg ([] : List Addr) H0 H0 := Chg.refl H0
      unfold Mi.m_is_zone_1 at hm
      refine q_asg ?_
      refine w_cb ?_
      refine w_nil ?_
      refine w_set0 (K := K) (w := w) fun p1 H5 np4 c2 r3 => ?_
      have n6 : ∀ a ∈ [p1], H0 a = none := one_fresh (c0.dom p1 np4)
      have r0 := Ty.fz r0 c2
      have c0 := c0.trans c2.none
      refine g_name (σ' := [some v0, some (.int d1), some (.ref p1), none]) rfl ?_
      refine q_for ?_
      refine w_iTup ?_
      refine c_val (val_var rfl) ?_
      obtain ⟨e7, he7, hm⟩ := Mi.bnd hm
      refine l_tup r0 (fun i σ' H' => ∃ (s8 : (List Int)) (y9 : Option V), σ' = [some v0, some (.int d1), some (.ref p1), y9] ∧ Chg ([] : List Addr) H0 H' ∧ (yTupL yInt).rep K H' [] v0 d0 ∧ (ySet w).rep K H' [p1] (.ref p1) s8 ∧ Mi.forR (Mi.m_is_zone_1_b1 d1) s8 (List.drop i d0) = some e7) ⟨([] : List Int), none, rfl, c0, r0, r3, he7⟩ (fun i σ' H' hp => by obtain ⟨s8, y9, rfl, c0, r0, r3, _⟩ := hp; exact r0) (fun i12 x11 u13 σ' H' hx10 r14 hp => ?_) (fun σ' H' hp => ?_)
      ·
        obtain ⟨s8, y9, rfl, c0, r0, r3, hle7⟩ := hp
        obtain ⟨o15, hbe7, hore7⟩ := Mi.forR_go hle7 hx10
        unfold Mi.m_is_zone_1_b1 at hbe7
        obtain ⟨_, rfl⟩ := r14
        refine g_name (σ' := [some v0, some (.int d1), some (.ref p1), some (.int x11)]) rfl ?_
        refine q_if (ans_orB (ans_t (val_lt (val_var rfl) val_c)) (fun _ => (ans_orB (ans_t (val_ge (val_var rfl) (val_var rfl))) (fun _ => (ans_t (val_inS r3 (val_var rfl) (val_var rfl))))))) (fun hb => ?_) (fun hb => ?_)
        ·
          replace hbe7 := Mi.ifT hb hbe7
          refine q_ret ?_
          refine c_val val_c ?_
          obtain rfl := Option.some.inj hbe7
          obtain rfl := Mi.or_inl hore7
          obtain rfl := Option.some.inj (Mi.orR_inl hm)
          exact hQ _ c0 
        replace hbe7 := Mi.ifF hb hbe7
        refine w_fall ?_
        refine q_drop (w_sadd (c_val (val_var rfl) ⟨tyv_set r3, ?_⟩))
        refine w_args (va_cons (val_var rfl) va_nil) ?_
        obtain ⟨x18, hx18, hbe7⟩ := Mi.bnd hbe7
        refine m_sadd r3 hx18 fun H20 c19 r3 => ?_
        have r0 := Ty.fz r0 c19
        have c0 := c0.join c19 (fun a h => .inr (n6 a h))
        refine w_nextJ ?_
        obtain rfl := Option.some.inj hbe7
        replace hore7 := Mi.or_inr hore7
        exact ⟨_, (some (.int x11)), rfl, c0, r0, r3, hore7⟩
      obtain ⟨s8, y9, rfl, c0, r0, r3, hle7⟩ := hp
      obtain rfl := Mi.forR_end hle7
      replace hm := Mi.orR_inr hm
      refine q_ret ?_
      refine c_val val_c ?_
      obtain rfl := Option.some.inj hm
      exact hQ _ c0 
abbrev s_good_numbers : Stmt := topS 11
abbrev N_good_numbers : List Str := ["numbers", "most", "greatest", "number"]
theorem sc_good_numbers : FnScope ["numbers", "most", "greatest", "number"] ["numbers", "most", "greatest"] (defScope s_good_numbers) := ⟨rfl, rfl, rfl, by decide +kernel, rfl, by decide +kernel, by decide +kernel⟩
def sp_good_numbers (K : PySem.W.Frag) : Sp := fun vs H Q _ => (∃ (v0 : V) (F0 : List Addr) (d0 : (List Int)) (d1 : Int) (d2 : Int) (r : Bool), vs = [v0, (.int d1), (.int d2)] ∧ (yLst yInt).rep K H F0 v0 d0 ∧ Mi.m_good_numbers_0 d0 d1 d2 = some r ∧ ∀ H', Chg ([]) H H' → Q (.bl r) H') ∨ (∃ (v0 : V) (d0 : (List Int)) (d1 : Int) (d2 : Int) (r : Bool), vs = [v0, (.int d1), (.int d2)] ∧ (yTupL yInt).rep K H [] v0 d0 ∧ Mi.m_good_numbers_1 d0 d1 d2 = some r ∧ ∀ H', Chg ([]) H H' → Q (.bl r) H')
theorem ok_good_numbers (B : Bi mg) (CN : Cs K mg) (D : Dfn K mg "good_numbers" s_good_numbers)  : Cal P w K mg "good_numbers" ["numbers", "most", "greatest"] 1 (sp_good_numbers K) := by
  obtain ⟨f, fd, F, g⟩ := D.ex
  refine ⟨f, fd, g, F.kp, bindsF F (fun _ _ _ _ _ _ us hl => match us, hl with | [_, _, _], _ => rfl), fun base => F.ok sc_good_numbers (fun vs H Q E h => ?_) (fun cdv A outer s H0 vs Q E hr h => ?_)⟩
  · rcases h with ⟨v0, F0, d0, d1, d2, r, rfl, r0, hm, hQ⟩ | ⟨v0, d0, d1, d2, r, rfl, r0, hm, hQ⟩
    all_goals rfl
  · rcases h with h | h
    ·
      obtain ⟨v0, F0, d0, d1, d2, r, rfl, r0, hm, hQ⟩ := h
      refine ⟨_, pss_cons (ps_if (PW.pt (pw_or (pt_cmpR op_lt (pe_callB (cl_len (K := K)) (by rfl) B.len PySem.boot_len (pa_cons (pv 0) pa_nil)) pe_int (nomark _)) (pw_or1 (pt_cmpR op_gt (pe_callB (cl_len (K := K)) (by rfl) B.len PySem.boot_len (pa_cons (pv 0) pa_nil)) (pv 1) (nomark _))))) (pss_cons (ps_ret pe_bl) pss_nil) (pss_nil))
      (pss_cons (ps_for PassesOwn.never rfl (pi_list (pv 0)) (pg_name (i := 3) sc_good_numbers.nd rfl (.inl rfl)) (pss_cons (ps_if (PW.pt (pw_or (pt_cmpR op_lt (pv 3) pe_int (nomark _)) (pw_or1 (pt_cmpR op_gt (pv 3) (pv 2) (nomark _))))) (pss_cons (ps_ret pe_bl) pss_nil) (pss_nil))
      (pss_nil)))
      (pss_cons (ps_ret pe_bl) pss_nil)), ?_⟩
      have c0 : Chg ([] : List Addr) H0 H0 := Chg.refl H0
      unfold Mi.m_good_numbers_0 at hm
      refine q_if (ans_orB (ans_t (val_lt (val_lenL r0 (val_var rfl)) val_c)) (fun _ => (ans_t (val_gt (val_lenL r0 (val_var rfl)) (val_var rfl))))) (fun hb => ?_) (fun hb => ?_)
      ·
        replace hm := Mi.ifT hb hm
        refine q_ret ?_
        refine c_val val_c ?_
        obtain rfl := Option.some.inj hm
        exact hQ _ c0 
      replace hm := Mi.ifF hb hm
      refine w_fall ?_
      refine q_for ?_
      refine w_iList ?_
      refine c_val (val_var rfl) ?_
      obtain ⟨e2, he2, hm⟩ := Mi.bnd hm
      refine l_lst r0 (fun i σ' H' => ∃ (s3 : Unit) (y4 : Option V), σ' = [some v0, some (.int d1), some (.int d2), y4] ∧ Chg ([] : List Addr) H0 H' ∧ (yLst yInt).rep K H' F0 v0 d0 ∧ Mi.forR (Mi.m_good_numbers_0_b1 d2) s3 (List.drop i d0) = some e2) ⟨(), none, rfl, c0, r0, he2⟩ (fun i σ' H' hp => by obtain ⟨s3, y4, rfl, c0, r0, _⟩ := hp; exact r0) (fun i7 x6 u8 σ' H' hx5 r9 hp => ?_) (fun σ' H' hp => ?_)
      ·
        obtain ⟨s3, y4, rfl, c0, r0, hle2⟩ := hp
        obtain ⟨o10, hbe2, hore2⟩ := Mi.forR_go hle2 hx5
        unfold Mi.m_good_numbers_0_b1 at hbe2
        obtain ⟨_, rfl⟩ := r9
        refine g_name (σ' := [some v0, some (.int d1), some (.int d2), some (.int x6)]) rfl ?_
        refine q_if (ans_orB (ans_t (val_lt (val_var rfl) val_c)) (fun _ => (ans_t (val_gt (val_var rfl) (val_var rfl))))) (fun hb => ?_) (fun hb => ?_)
        ·
          replace hbe2 := Mi.ifT hb hbe2
          refine q_ret ?_
          refine c_val val_c ?_
          obtain rfl := Option.some.inj hbe2
          obtain rfl := Mi.or_inl hore2
          obtain rfl := Option.some.inj (Mi.orR_inl hm)
          exact hQ _ c0 
        replace hbe2 := Mi.ifF hb hbe2
        refine w_fall ?_
        refine w_nextJ ?_
        obtain rfl := Option.some.inj hbe2
        replace hore2 := Mi.or_inr hore2
        exact ⟨_, (some (.int x6)), rfl, c0, r0, hore2⟩
      obtain ⟨s3, y4, rfl, c0, r0, hle2⟩ := hp
      obtain rfl := Mi.forR_end hle2
      replace hm := Mi.orR_inr hm
      refine q_ret ?_
      refine c_val val_c ?_
      obtain rfl := Option.some.inj hm
      exact hQ _ c0 
    ·
      obtain ⟨v0, d0, d1, d2, r, rfl, r0, hm, hQ⟩ := h
      refine ⟨_, pss_cons (ps_if (PW.pt (pw_or (pt_cmpR op_lt (pe_callB (cl_len (K := K)) (by rfl) B.len PySem.boot_len (pa_cons (pv 0) pa_nil)) pe_int (nomark _)) (pw_or1 (pt_cmpR op_gt (pe_callB (cl_len (K := K)) (by rfl) B.len PySem.boot_len (pa_cons (pv 0) pa_nil)) (pv 1) (nomark _))))) (pss_cons (ps_ret pe_bl) pss_nil) (pss_nil))
      (pss_cons (ps_for PassesOwn.never rfl (pi_tup (pv 0)) (pg_name (i := 3) sc_good_numbers.nd rfl (.inl rfl)) (pss_cons (ps_if (PW.pt (pw_or (pt_cmpR op_lt (pv 3) pe_int (nomark _)) (pw_or1 (pt_cmpR op_gt (pv 3) (pv 2) (nomark _))))) (pss_cons (ps_ret pe_bl) pss_nil) (pss_nil))
      (pss_nil)))
      (pss_cons (ps_ret pe_bl) pss_nil)), ?_⟩
      have c0 : Chg ([] : List Addr) H0 H0 := Chg.refl H0
      unfold Mi.m_good_numbers_1 at hm
      refine q_if (ans_orB (ans_t (val_lt (val_lenT r0 (val_var rfl)) val_c)) (fun _ => (ans_t (val_gt (val_lenT r0 (val_var rfl)) (val_var rfl))))) (fun hb => ?_) (fun hb => ?_)
      ·
        replace hm := Mi.ifT hb hm
        refine q_ret ?_
        refine c_val val_c ?_
        obtain rfl := Option.some.inj hm
        exact hQ _ c0 
      replace hm := Mi.ifF hb hm
      refine w_fall ?_
      refine q_for ?_
      refine w_iTup ?_
      refine c_val (val_var rfl) ?_
      obtain ⟨e2, he2, hm⟩ := Mi.bnd hm
      refine l_tup r0 (fun i σ' H' => ∃ (s3 : Unit) (y4 : Option V), σ' = [some v0, some (.int d1), some (.int d2), y4] ∧ Chg ([] : List Addr) H0 H' ∧ (yTupL yInt).rep K H' [] v0 d0 ∧ Mi.forR (Mi.m_good_numbers_1_b1 d2) s3 (List.drop i d0) = some e2) ⟨(), none, rfl, c0, r0, he2⟩ (fun i σ' H' hp => by obtain ⟨s3, y4, rfl, c0, r0, _⟩ := hp; exact r0) (fun i7 x6 u8 σ' H' hx5 r9 hp => ?_) (fun σ' H' hp => ?_)
      ·
        obtain ⟨s3, y4, rfl, c0, r0, hle2⟩ := hp
        obtain ⟨o10, hbe2, hore2⟩ := Mi.forR_go hle2 hx5
        unfold Mi.m_good_numbers_1_b1 at hbe2
        obtain ⟨_, rfl⟩ := r9
        refine g_name (σ' := [some v0, some (.int d1), some (.int d2), some (.int x6)]) rfl ?_
        refine q_if (ans_orB (ans_t (val_lt (val_var rfl) val_c)) (fun _ => (ans_t (val_gt (val_var rfl) (val_var rfl))))) (fun hb => ?_) (fun hb => ?_)
        ·
          replace hbe2 := Mi.ifT hb hbe2
          refine q_ret ?_
          refine c_val val_c ?_
          obtain rfl := Option.some.inj hbe2
          obtain rfl := Mi.or_inl hore2
          obtain rfl := Option.some.inj (Mi.orR_inl hm)
          exact hQ _ c0 
        replace hbe2 := Mi.ifF hb hbe2
        refine w_fall ?_
        refine w_nextJ ?_
        obtain rfl := Option.some.inj hbe2
        replace hore2 := Mi.or_inr hore2
        exact ⟨_, (some (.int x6)), rfl, c0, r0, hore2⟩
      obtain ⟨s3, y4, rfl, c0, r0, hle2⟩ := hp
      obtain rfl := Mi.forR_end hle2
      replace hm := Mi.orR_inr hm
      refine q_ret ?_
      refine c_val val_c ?_
      obtain rfl := Option.some.inj hm
      exact hQ _ c0 
abbrev s_good_depths : Stmt := topS 12
abbrev N_good_depths : List Str := ["depths"]
theorem sc_good_depths : FnScope ["depths"] ["depths"] (defScope s_good_depths) := ⟨rfl, rfl, rfl, by decide +kernel, rfl, by decide +kernel, by decide +kernel⟩
def sp_good_depths (K : PySem.W.Frag) : Sp := fun vs H Q _ => (∃ (v0 : V) (F0 : List Addr) (d0 : (List Int)) (r : Bool), vs = [v0] ∧ (yLst yInt).rep K H F0 v0 d0 ∧ Mi.m_good_depths_0 d0 = some r ∧ ∀ H', Chg ([]) H H' → Q (.bl r) H') ∨ (∃ (v0 : V) (d0 : (List Int)) (r : Bool), vs = [v0] ∧ (yTupL yInt).rep K H [] v0 d0 ∧ Mi.m_good_depths_1 d0 = some r ∧ ∀ H', Chg ([]) H H' → Q (.bl r) H')
theorem ok_good_depths (B : Bi mg) (CN : Cs K mg) (D : Dfn K mg "good_depths" s_good_depths) (C_good_numbers : Cal P w K mg "good_numbers" ["numbers", "most", "greatest"] 1 (sp_good_numbers K)) : Cal P w K mg "good_depths" ["depths"] 2 (sp_good_depths K) := by
  obtain ⟨f, fd, F, g⟩ := D.ex
  refine ⟨f, fd, g, F.kp, bindsF F (fun _ _ _ _ _ _ us hl => match us, hl with | [_], _ => rfl), fun base => F.ok sc_good_depths (fun vs H Q E h => ?_) (fun cdv A outer s H0 vs Q E hr h => ?_)⟩
  · rcases h with ⟨v0, F0, d0, r, rfl, r0, hm, hQ⟩ | ⟨v0, d0, r, rfl, r0, hm, hQ⟩
    all_goals rfl
  · rcases h with h | h
    ·
      obtain ⟨v0, F0, d0, r, rfl, r0, hm, hQ⟩ := h
      refine ⟨_, pss_cons (ps_ret (pe_cc C_good_numbers hr (pa_cons (pv 0) (pa_cons (pe_glob (v := .int 12) (by rfl) CN.c_MOST_PLACES.choose_spec ⟨_, rfl⟩) (pa_cons (pe_glob (v := .int 99) (by rfl) CN.c_GREATEST_DEPTH.choose_spec ⟨_, rfl⟩) pa_nil))))) pss_nil, ?_⟩
      have c0 : Chg ([] : List Addr) H0 H0 := Chg.refl H0
      unfold Mi.m_good_depths_0 at hm
      refine q_ret ?_
      refine w_call ?_
      refine w_args (va_cons (val_var rfl) (va_cons val_c (va_cons val_c va_nil))) ?_
      obtain ⟨q1, hq1, hm⟩ := Mi.bnd hm
      refine Or.inl ⟨v0, F0, d0, (12 : Int), (99 : Int), q1, rfl, r0, hq1, fun H3 c2  => ?_⟩
      have r0 := Ty.ex r0 c2
      have c0 := c0.trans c2.none
      obtain rfl := Option.some.inj hm
      exact hQ _ c0 
    ·
      obtain ⟨v0, d0, r, rfl, r0, hm, hQ⟩ := h
      refine ⟨_, pss_cons (ps_ret (pe_cc C_good_numbers hr (pa_cons (pv 0) (pa_cons (pe_glob (v := .int 12) (by rfl) CN.c_MOST_PLACES.choose_spec ⟨_, rfl⟩) (pa_cons (pe_glob (v := .int 99) (by rfl) CN.c_GREATEST_DEPTH.choose_spec ⟨_, rfl⟩) pa_nil))))) pss_nil, ?_⟩
      have c0 : Chg ([] : List Addr) H0 H0 := Chg.refl H0
      unfold Mi.m_good_depths_1 at hm
      refine q_ret ?_
      refine w_call ?_
      refine w_args (va_cons (val_var rfl) (va_cons val_c (va_cons val_c va_nil))) ?_
      obtain ⟨q1, hq1, hm⟩ := Mi.bnd hm
      refine Or.inr (⟨v0, d0, (12 : Int), (99 : Int), q1, rfl, r0, hq1, fun H3 c2  => ?_⟩)
      have r0 := Ty.fz r0 c2
      have c0 := c0.trans c2.none
      obtain rfl := Option.some.inj hm
      exact hQ _ c0 
abbrev s_good_lanes : Stmt := topS 13
abbrev N_good_lanes : List Str := ["lanes", "size", "known", "one", "other", "low", "high"]
theorem sc_good_lanes : FnScope ["lanes", "size", "known", "one", "other", "low", "high"] ["lanes", "size"] (defScope s_good_lanes) := ⟨rfl, rfl, rfl, by decide +kernel, rfl, by decide +kernel, by decide +kernel⟩
def sp_good_lanes (K : PySem.W.Frag) : Sp := fun vs H Q _ => (∃ (v0 : V) (F0 : List Addr) (d0 : (List (Int × Int))) (d1 : Int) (r : Bool), vs = [v0, (.int d1)] ∧ (yLst (yTup (sCons yInt (sOne yInt)))).rep K H F0 v0 d0 ∧ Mi.m_good_lanes_0 d0 d1 = some r ∧ ∀ H', Chg ([]) H H' → Q (.bl r) H') ∨ (∃ (v0 : V) (d0 : (List (Int × Int))) (d1 : Int) (r : Bool), vs = [v0, (.int d1)] ∧ (yTupL (yTup (sCons yInt (sOne yInt)))).rep K H [] v0 d0 ∧ Mi.m_good_lanes_1 d0 d1 = some r ∧ ∀ H', Chg ([]) H H' → Q (.bl r) H')
theorem ok_good_lanes (B : Bi mg) (CN : Cs K mg) (D : Dfn K mg "good_lanes" s_good_lanes)  : Cal P w K mg "good_lanes" ["lanes", "size"] 1 (sp_good_lanes K) := by
  obtain ⟨f, fd, F, g⟩ := D.ex
  refine ⟨f, fd, g, F.kp, bindsF F (fun _ _ _ _ _ _ us hl => match us, hl with | [_, _], _ => rfl), fun base => F.ok sc_good_lanes (fun vs H Q E h => ?_) (fun cdv A outer s H0 vs Q E hr h => ?_)⟩
  · rcases h with ⟨v0, F0, d0, d1, r, rfl, r0, hm, hQ⟩ | ⟨v0, d0, d1, r, rfl, r0, hm, hQ⟩
    all_goals rfl
  · rcases h with h | h
    ·
      obtain ⟨v0, F0, d0, d1, r, rfl, r0, hm, hQ⟩ := h
      refine ⟨_, pss_cons (ps_set (i := 2) sc_good_lanes.nd rfl (.inl rfl) (pe_callTy0 (cl_setP0 (P := P) (w := w)) (by rfl) B.set (by decide +kernel)))
      (pss_cons (ps_for PassesOwn.never rfl (pi_list (pv 0)) (pg_tupk (K := K) (n := 2) rfl (pgs_cons (pg_name (i := 3) sc_good_lanes.nd rfl (.inl rfl)) (pgs_cons (pg_name (i := 4) sc_good_lanes.nd rfl (.inl rfl)) pgs_nil))) (pss_cons (ps_set (i := 5) sc_good_lanes.nd rfl (.inl rfl) (pe_callB (cl_min2 rfl) (by rfl) B.min (by decide +kernel) (pa_cons (pv 3) (pa_cons (pv 4) pa_nil))))
      (pss_cons (ps_set (i := 6) sc_good_lanes.nd rfl (.inl rfl) (pe_callB (cl_max2 rfl) (by rfl) B.max (by decide +kernel) (pa_cons (pv 3) (pa_cons (pv 4) pa_nil))))
      (pss_cons (ps_if (PW.pt (pw_or (pt_cmpR op_lt (pv 5) pe_int (nomark _)) (pw_or (pt_cmpR op_ge (pv 6) (pv 1) (nomark _)) (pw_or (pt_cmpR op_eq (pv 5) (pv 6) (nomark _)) (pw_or1 (pt_cmpR (op_inP (K := K) (P := P) (w := w) hr.units) (pe_tup (pa_cons (pv 5) (pa_cons (pv 6) pa_nil))) (pv 2) (by rfl))))))) (pss_cons (ps_ret pe_bl) pss_nil) (pss_nil))
      (pss_cons (ps_expr (pe_saddP (K := K) (P := P) (w := w) hr.units (pv 2) (pa_cons (pe_tup (pa_cons (pv 5) (pa_cons (pv 6) pa_nil))) pa_nil)))
      (pss_nil))))))
      (pss_cons (ps_ret pe_bl) pss_nil)), ?_⟩
      have c0 : Chg ([] : List Addr) H0 H0 := Chg.refl H0
      unfold Mi.m_good_lanes_0 at hm
      refine q_asg ?_
      refine w_cb ?_
      refine w_nil ?_
      refine w_setP0 (K := K) (P := P) (w := w) fun p1 H5 np4 c2 r3 => ?_
      have d6 : Dj F0 [p1] := Ty.nin r0 np4
      have n7 : ∀ a ∈ [p1], H0 a = none := one_fresh (c0.dom p1 np4)
      have r0 := Ty.ex r0 c2
      have c0 := c0.trans c2.none
      refine g_name (σ' := [some v0, some (.int d1), some (.ref p1), none, none, none, none]) rfl ?_
      refine q_for ?_
      refine w_iList ?_
      refine c_val (val_var rfl) ?_
      obtain ⟨e8, he8, hm⟩ := Mi.bnd hm
      refine l_lst r0 (fun i σ' H' => ∃ (s9 : (List (Int × Int))) (y10 : Option V) (y11 : Option V) (y12 : Option V) (y13 : Option V), σ' = [some v0, some (.int d1), some (.ref p1), y10, y11, y12, y13] ∧ Chg ([] : List Addr) H0 H' ∧ (yLst (yTup (sCons yInt (sOne yInt)))).rep K H' F0 v0 d0 ∧ (ySetP P w).rep K H' [p1] (.ref p1) s9 ∧ Mi.forR (Mi.m_good_lanes_0_b1 d1) s9 (List.drop i d0) = some e8) ⟨([] : List (Int × Int)), none, none, none, none, rfl, c0, r0, r3, he8⟩ (fun i σ' H' hp => by obtain ⟨s9, y10, y11, y12, y13, rfl, c0, r0, r3, _⟩ := hp; exact r0) (fun i16 x15 u17 σ' H' hx14 r18 hp => ?_) (fun σ' H' hp => ?_)
      ·
        obtain ⟨s9, y10, y11, y12, y13, rfl, c0, r0, r3, hle8⟩ := hp
        obtain ⟨o19, hbe8, hore8⟩ := Mi.forR_go hle8 hx14
        unfold Mi.m_good_lanes_0_b1 at hbe8
        refine g_tup2 r18 fun u20 u21 r22 r23 => ?_
        obtain ⟨_, rfl⟩ := r22
        obtain ⟨_, rfl⟩ := r23
        refine g_names (σ' := [some v0, some (.int d1), some (.ref p1), some (.int x15.1), some (.int x15.2), y12, y13]) rfl ?_
        obtain ⟨low24, hlow24, hbe8⟩ := Mi.letE hbe8
        refine q_setE (val_min2 (val_var rfl) (val_var rfl)) (congrArg V.int hlow24) (σ' := [some v0, some (.int d1), some (.ref p1), some (.int x15.1), some (.int x15.2), some (.int low24), y13]) rfl ?_
        obtain ⟨high25, hhigh25, hbe8⟩ := Mi.letE hbe8
        refine q_setE (val_max2 (val_var rfl) (val_var rfl)) (congrArg V.int hhigh25) (σ' := [some v0, some (.int d1), some (.ref p1), some (.int x15.1), some (.int x15.2), some (.int low24), some (.int high25)]) rfl ?_
        refine q_ifS ?_
        obtain ⟨b26, hb26, hbe8⟩ := Mi.bnd hbe8
        refine j_tt b26 (R := fun H' => Chg ([] : List Addr) H0 H' ∧ (yLst (yTup (sCons yInt (sOne yInt)))).rep K H' F0 v0 d0 ∧ (ySetP P w).rep K H' [p1] (.ref p1) s9) (fun Q' kq => ?_) (fun H' hj => ?_)
        ·
          refine w_or ?_
          refine c_ans (ans_t (val_lt (val_var rfl) val_c)) ?_
          refine c_if (fun hb => ?_) (fun hb => ?_)
          ·
            replace hb26 := Mi.ifT hb hb26
            obtain rfl := Option.some.inj hb26
            exact kq _ ⟨c0, r0, r3⟩
          replace hb26 := Mi.ifF hb hb26
          refine w_or ?_
          refine c_ans (ans_t (val_ge (val_var rfl) (val_var rfl))) ?_
          refine c_if (fun hb => ?_) (fun hb => ?_)
          ·
            replace hb26 := Mi.ifT hb hb26
            obtain rfl := Option.some.inj hb26
            exact kq _ ⟨c0, r0, r3⟩
          replace hb26 := Mi.ifF hb hb26
          refine w_or ?_
          refine c_ans (ans_t (val_eqI (val_var rfl) (val_var rfl))) ?_
          refine c_if (fun hb => ?_) (fun hb => ?_)
          ·
            replace hb26 := Mi.ifT hb hb26
            obtain rfl := Option.some.inj hb26
            exact kq _ ⟨c0, r0, r3⟩
          replace hb26 := Mi.ifF hb hb26
          refine w_test ?_
          refine w_op ?_
          refine w_tup ?_
          refine w_args (va_cons (val_var rfl) (va_cons (val_var rfl) va_nil)) ?_
          refine e_tup (K := K) (ty := (sCons yInt (sOne yInt))) (F := []) (d := (low24, high25)) (by exact Nat.le_of_ble_eq_true rfl) ⟨_, _, _, _, rfl, rfl, yInt_i, ⟨_, rfl, yInt_i⟩⟩ fun p27 H31 np30 c28 r29 => ?_
          have r0 := Ty.ex r0 c28
          have r3 := Ty.ex r3 c28
          have c0 := c0.trans c28.none
          refine c_val (val_var rfl) ?_
          refine w_inP r3 r29 ?_
          refine ⟨_, rfl, ?_⟩
          obtain rfl := Option.some.inj hb26
          exact kq _ ⟨c0, r0, r3⟩
        obtain ⟨c0, r0, r3⟩ := hj
        refine c_if (fun hb => ?_) (fun hb => ?_)
        ·
          replace hbe8 := Mi.ifT hb hbe8
          refine q_ret ?_
          refine c_val val_c ?_
          obtain rfl := Option.some.inj hbe8
          obtain rfl := Mi.or_inl hore8
          obtain rfl := Option.some.inj (Mi.orR_inl hm)
          exact hQ _ c0 
        replace hbe8 := Mi.ifF hb hbe8
        refine w_fall ?_
        refine q_drop (w_badd (c_val (val_var rfl) ⟨tyv_setP r3, ?_⟩))
        refine w_cons ?_
        refine w_tup ?_
        refine w_args (va_cons (val_var rfl) (va_cons (val_var rfl) va_nil)) ?_
        refine e_tup (K := K) (ty := (sCons yInt (sOne yInt))) (F := []) (d := (low24, high25)) (by exact Nat.le_of_ble_eq_true rfl) ⟨_, _, _, _, rfl, rfl, yInt_i, ⟨_, rfl, yInt_i⟩⟩ fun p32 H36 np35 c33 r34 => ?_
        have r0 := Ty.ex r0 c33
        have r3 := Ty.ex r3 c33
        have c0 := c0.trans c33.none
        refine w_nil ?_
        obtain ⟨x37, hx37, hbe8⟩ := Mi.bnd hbe8
        refine m_saddP r3 r34 hx37 fun H39 c38 r3 => ?_
        have r0 := Ty.chg r0 c38 d6
        have c0 := c0.join c38 (fun a h => .inr (n7 a h))
        refine w_nextJ ?_
        obtain rfl := Option.some.inj hbe8
        replace hore8 := Mi.or_inr hore8
        exact ⟨_, (some (.int x15.1)), (some (.int x15.2)), (some (.int low24)), (some (.int high25)), rfl, c0, r0, r3, hore8⟩
      obtain ⟨s9, y10, y11, y12, y13, rfl, c0, r0, r3, hle8⟩ := hp
      obtain rfl := Mi.forR_end hle8
      replace hm := Mi.orR_inr hm
      refine q_ret ?_
      refine c_val val_c ?_
      obtain rfl := Option.some.inj hm
      exact hQ _ c0 
    ·
      obtain ⟨v0, d0, d1, r, rfl, r0, hm, hQ⟩ := h
      refine ⟨_, pss_cons (ps_set (i := 2) sc_good_lanes.nd rfl (.inl rfl) (pe_callTy0 (cl_setP0 (P := P) (w := w)) (by rfl) B.set (by decide +kernel)))
      (pss_cons (ps_for PassesOwn.never rfl (pi_tup (pv 0)) (pg_tupk (K := K) (n := 2) rfl (pgs_cons (pg_name (i := 3) sc_good_lanes.nd rfl (.inl rfl)) (pgs_cons (pg_name (i := 4) sc_good_lanes.nd rfl (.inl rfl)) pgs_nil))) (pss_cons (ps_set (i := 5) sc_good_lanes.nd rfl (.inl rfl) (pe_callB (cl_min2 rfl) (by rfl) B.min (by decide +kernel) (pa_cons (pv 3) (pa_cons (pv 4) pa_nil))))
      (pss_cons (ps_set (i := 6) sc_good_lanes.nd rfl (.inl rfl) (pe_callB (cl_max2 rfl) (by rfl) B.max (by decide +kernel) (pa_cons (pv 3) (pa_cons (pv 4) pa_nil))))
      (pss_cons (ps_if (PW.pt (pw_or (pt_cmpR op_lt (pv 5) pe_int (nomark _)) (pw_or (pt_cmpR op_ge (pv 6) (pv 1) (nomark _)) (pw_or (pt_cmpR op_eq (pv 5) (pv 6) (nomark _)) (pw_or1 (pt_cmpR (op_inP (K := K) (P := P) (w := w) hr.units) (pe_tup (pa_cons (pv 5) (pa_cons (pv 6) pa_nil))) (pv 2) (by rfl))))))) (pss_cons (ps_ret pe_bl) pss_nil) (pss_nil))
      (pss_cons (ps_expr (pe_saddP (K := K) (P := P) (w := w) hr.units (pv 2) (pa_cons (pe_tup (pa_cons (pv 5) (pa_cons (pv 6) pa_nil))) pa_nil)))
      (pss_nil))))))
      (pss_cons (ps_ret pe_bl) pss_nil)), ?_⟩
      have c0 : Chg ([] : List Addr) H0 H0 := Chg.refl H0
      unfold Mi.m_good_lanes_1 at hm
      refine q_asg ?_
      refine w_cb ?_
      refine w_nil ?_
      refine w_setP0 (K := K) (P := P) (w := w) fun p1 H5 np4 c2 r3 => ?_
      have n6 : ∀ a ∈ [p1], H0 a = none := one_fresh (c0.dom p1 np4)
      have r0 := Ty.fz r0 c2
      have c0 := c0.trans c2.none
      refine g_name (σ' := [some v0, some (.int d1), some (.ref p1), none, none, none, none]) rfl ?_
      refine q_for ?_
      refine w_iTup ?_
      refine c_val (val_var rfl) ?_
      obtain ⟨e7, he7, hm⟩ := Mi.bnd hm
      refine l_tup r0 (fun i σ' H' => ∃ (s8 : (List (Int × Int))) (y9 : Option V) (y10 : Option V) (y11 : Option V) (y12 : Option V), σ' = [some v0, some (.int d1), some (.ref p1), y9, y10, y11, y12] ∧ Chg ([] : List Addr) H0 H' ∧ (yTupL (yTup (sCons yInt (sOne yInt)))).rep K H' [] v0 d0 ∧ (ySetP P w).rep K H' [p1] (.ref p1) s8 ∧ Mi.forR (Mi.m_good_lanes_1_b1 d1) s8 (List.drop i d0) = some e7) ⟨([] : List (Int × Int)), none, none, none, none, rfl, c0, r0, r3, he7⟩ (fun i σ' H' hp => by obtain ⟨s8, y9, y10, y11, y12, rfl, c0, r0, r3, _⟩ := hp; exact r0) (fun i15 x14 u16 σ' H' hx13 r17 hp => ?_) (fun σ' H' hp => ?_)
      ·
        obtain ⟨s8, y9, y10, y11, y12, rfl, c0, r0, r3, hle7⟩ := hp
        obtain ⟨o18, hbe7, hore7⟩ := Mi.forR_go hle7 hx13
        unfold Mi.m_good_lanes_1_b1 at hbe7
        refine g_tup2 r17 fun u19 u20 r21 r22 => ?_
        obtain ⟨_, rfl⟩ := r21
        obtain ⟨_, rfl⟩ := r22
        refine g_names (σ' := [some v0, some (.int d1), some (.ref p1), some (.int x14.1), some (.int x14.2), y11, y12]) rfl ?_
        obtain ⟨low23, hlow23, hbe7⟩ := Mi.letE hbe7
        refine q_setE (val_min2 (val_var rfl) (val_var rfl)) (congrArg V.int hlow23) (σ' := [some v0, some (.int d1), some (.ref p1), some (.int x14.1), some (.int x14.2), some (.int low23), y12]) rfl ?_
        obtain ⟨high24, hhigh24, hbe7⟩ := Mi.letE hbe7
        refine q_setE (val_max2 (val_var rfl) (val_var rfl)) (congrArg V.int hhigh24) (σ' := [some v0, some (.int d1), some (.ref p1), some (.int x14.1), some (.int x14.2), some (.int low23), some (.int high24)]) rfl ?_
        refine q_ifS ?_
        obtain ⟨b25, hb25, hbe7⟩ := Mi.bnd hbe7
        refine j_tt b25 (R := fun H' => Chg ([] : List Addr) H0 H' ∧ (yTupL (yTup (sCons yInt (sOne yInt)))).rep K H' [] v0 d0 ∧ (ySetP P w).rep K H' [p1] (.ref p1) s8) (fun Q' kq => ?_) (fun H' hj => ?_)
        ·
          refine w_or ?_
          refine c_ans (ans_t (val_lt (val_var rfl) val_c)) ?_
          refine c_if (fun hb => ?_) (fun hb => ?_)
          ·
            replace hb25 := Mi.ifT hb hb25
            obtain rfl := Option.some.inj hb25
            exact kq _ ⟨c0, r0, r3⟩
          replace hb25 := Mi.ifF hb hb25
          refine w_or ?_
          refine c_ans (ans_t (val_ge (val_var rfl) (val_var rfl))) ?_
          refine c_if (fun hb => ?_) (fun hb => ?_)
          ·
            replace hb25 := Mi.ifT hb hb25
            obtain rfl := Option.some.inj hb25
            exact kq _ ⟨c0, r0, r3⟩
          replace hb25 := Mi.ifF hb hb25
          refine w_or ?_
          refine c_ans (ans_t (val_eqI (val_var rfl) (val_var rfl))) ?_
          refine c_if (fun hb => ?_) (fun hb => ?_)
          ·
            replace hb25 := Mi.ifT hb hb25
            obtain rfl := Option.some.inj hb25
            exact kq _ ⟨c0, r0, r3⟩
          replace hb25 := Mi.ifF hb hb25
          refine w_test ?_
          refine w_op ?_
          refine w_tup ?_
          refine w_args (va_cons (val_var rfl) (va_cons (val_var rfl) va_nil)) ?_
          refine e_tup (K := K) (ty := (sCons yInt (sOne yInt))) (F := []) (d := (low23, high24)) (by exact Nat.le_of_ble_eq_true rfl) ⟨_, _, _, _, rfl, rfl, yInt_i, ⟨_, rfl, yInt_i⟩⟩ fun p26 H30 np29 c27 r28 => ?_
          have r0 := Ty.fz r0 c27
          have r3 := Ty.ex r3 c27
          have c0 := c0.trans c27.none
          refine c_val (val_var rfl) ?_
          refine w_inP r3 r28 ?_
          refine ⟨_, rfl, ?_⟩
          obtain rfl := Option.some.inj hb25
          exact kq _ ⟨c0, r0, r3⟩
        obtain ⟨c0, r0, r3⟩ := hj
        refine c_if (fun hb => ?_) (fun hb => ?_)
        ·
          replace hbe7 := Mi.ifT hb hbe7
          refine q_ret ?_
          refine c_val val_c ?_
          obtain rfl := Option.some.inj hbe7
          obtain rfl := Mi.or_inl hore7
          obtain rfl := Option.some.inj (Mi.orR_inl hm)
          exact hQ _ c0 
        replace hbe7 := Mi.ifF hb hbe7
        refine w_fall ?_
        refine q_drop (w_badd (c_val (val_var rfl) ⟨tyv_setP r3, ?_⟩))
        refine w_cons ?_
        refine w_tup ?_
        refine w_args (va_cons (val_var rfl) (va_cons (val_var rfl) va_nil)) ?_
        refine e_tup (K := K) (ty := (sCons yInt (sOne yInt))) (F := []) (d := (low23, high24)) (by exact Nat.le_of_ble_eq_true rfl) ⟨_, _, _, _, rfl, rfl, yInt_i, ⟨_, rfl, yInt_i⟩⟩ fun p31 H35 np34 c32 r33 => ?_
        have r0 := Ty.fz r0 c32
        have r3 := Ty.ex r3 c32
        have c0 := c0.trans c32.none
        refine w_nil ?_
        obtain ⟨x36, hx36, hbe7⟩ := Mi.bnd hbe7
        refine m_saddP r3 r33 hx36 fun H38 c37 r3 => ?_
        have r0 := Ty.fz r0 c37
        have c0 := c0.join c37 (fun a h => .inr (n6 a h))
        refine w_nextJ ?_
        obtain rfl := Option.some.inj hbe7
        replace hore7 := Mi.or_inr hore7
        exact ⟨_, (some (.int x14.1)), (some (.int x14.2)), (some (.int low23)), (some (.int high24)), rfl, c0, r0, r3, hore7⟩
      obtain ⟨s8, y9, y10, y11, y12, rfl, c0, r0, r3, hle7⟩ := hp
      obtain rfl := Mi.forR_end hle7
      replace hm := Mi.orR_inr hm
      refine q_ret ?_
      refine c_val val_c ?_
      obtain rfl := Option.some.inj hm
      exact hQ _ c0 
abbrev s_good_tide : Stmt := topS 14
abbrev N_good_tide : List Str := ["tide"]
theorem sc_good_tide : FnScope ["tide"] ["tide"] (defScope s_good_tide) := ⟨rfl, rfl, rfl, by decide +kernel, rfl, by decide +kernel, by decide +kernel⟩
def sp_good_tide (K : PySem.W.Frag) : Sp := fun vs H Q _ => (∃ (v0 : V) (F0 : List Addr) (d0 : (List Int)) (r : Bool), vs = [v0] ∧ (yLst yInt).rep K H F0 v0 d0 ∧ Mi.m_good_tide_0 d0 = some r ∧ ∀ H', Chg ([]) H H' → Q (.bl r) H') ∨ (∃ (v0 : V) (d0 : (List Int)) (r : Bool), vs = [v0] ∧ (yTupL yInt).rep K H [] v0 d0 ∧ Mi.m_good_tide_1 d0 = some r ∧ ∀ H', Chg ([]) H H' → Q (.bl r) H')
theorem ok_good_tide (B : Bi mg) (CN : Cs K mg) (D : Dfn K mg "good_tide" s_good_tide) (C_good_numbers : Cal P w K mg "good_numbers" ["numbers", "most", "greatest"] 1 (sp_good_numbers K)) : Cal P w K mg "good_tide" ["tide"] 2 (sp_good_tide K) := by
  obtain ⟨f, fd, F, g⟩ := D.ex
  refine ⟨f, fd, g, F.kp, bindsF F (fun _ _ _ _ _ _ us hl => match us, hl with | [_], _ => rfl), fun base => F.ok sc_good_tide (fun vs H Q E h => ?_) (fun cdv A outer s H0 vs Q E hr h => ?_)⟩
  · rcases h with ⟨v0, F0, d0, r, rfl, r0, hm, hQ⟩ | ⟨v0, d0, r, rfl, r0, hm, hQ⟩
    all_goals rfl
  · rcases h with h | h
    ·
      obtain ⟨v0, F0, d0, r, rfl, r0, hm, hQ⟩ := h
      refine ⟨_, pss_cons (ps_ret (pe_cc C_good_numbers hr (pa_cons (pv 0) (pa_cons (pe_glob (v := .int 12) (by rfl) CN.c_MOST_TIDE_NUMBERS.choose_spec ⟨_, rfl⟩) (pa_cons (pe_glob (v := .int 20) (by rfl) CN.c_GREATEST_TIDE.choose_spec ⟨_, rfl⟩) pa_nil))))) pss_nil, ?_⟩
      have c0 : Chg ([] : List Addr) H0 H0 := Chg.refl H0
      unfold Mi.m_good_tide_0 at hm
      refine q_ret ?_
      refine w_call ?_
      refine w_args (va_cons (val_var rfl) (va_cons val_c (va_cons val_c va_nil))) ?_
      obtain ⟨q1, hq1, hm⟩ := Mi.bnd hm
      refine Or.inl ⟨v0, F0, d0, (12 : Int), (20 : Int), q1, rfl, r0, hq1, fun H3 c2  => ?_⟩
      have r0 := Ty.ex r0 c2
      have c0 := c0.trans c2.none
      obtain rfl := Option.some.inj hm
      exact hQ _ c0 
    ·
      obtain ⟨v0, d0, r, rfl, r0, hm, hQ⟩ := h
      refine ⟨_, pss_cons (ps_ret (pe_cc C_good_numbers hr (pa_cons (pv 0) (pa_cons (pe_glob (v := .int 12) (by rfl) CN.c_MOST_TIDE_NUMBERS.choose_spec ⟨_, rfl⟩) (pa_cons (pe_glob (v := .int 20) (by rfl) CN.c_GREATEST_TIDE.choose_spec ⟨_, rfl⟩) pa_nil))))) pss_nil, ?_⟩
      have c0 : Chg ([] : List Addr) H0 H0 := Chg.refl H0
      unfold Mi.m_good_tide_1 at hm
      refine q_ret ?_
      refine w_call ?_
      refine w_args (va_cons (val_var rfl) (va_cons val_c (va_cons val_c va_nil))) ?_
      obtain ⟨q1, hq1, hm⟩ := Mi.bnd hm
      refine Or.inr (⟨v0, d0, (12 : Int), (20 : Int), q1, rfl, r0, hq1, fun H3 c2  => ?_⟩)
      have r0 := Ty.fz r0 c2
      have c0 := c0.trans c2.none
      obtain rfl := Option.some.inj hm
      exact hQ _ c0 
abbrev s_good_harbours : Stmt := topS 15
abbrev N_good_harbours : List Str := ["harbours", "size"]
theorem sc_good_harbours : FnScope ["harbours", "size"] ["harbours", "size"] (defScope s_good_harbours) := ⟨rfl, rfl, rfl, by decide +kernel, rfl, by decide +kernel, by decide +kernel⟩
def sp_good_harbours (K : PySem.W.Frag) : Sp := fun vs H Q _ => (∃ (v0 : V) (F0 : List Addr) (d0 : (List Int)) (d1 : Int) (r : Bool), vs = [v0, (.int d1)] ∧ (yLst yInt).rep K H F0 v0 d0 ∧ Mi.m_good_harbours_0 d0 d1 = some r ∧ ∀ H', Chg ([]) H H' → Q (.bl r) H') ∨ (∃ (v0 : V) (d0 : (List Int)) (d1 : Int) (r : Bool), vs = [v0, (.int d1)] ∧ (yTupL yInt).rep K H [] v0 d0 ∧ Mi.m_good_harbours_1 d0 d1 = some r ∧ ∀ H', Chg ([]) H H' → Q (.bl r) H')
theorem ok_good_harbours (B : Bi mg) (CN : Cs K mg) (D : Dfn K mg "good_harbours" s_good_harbours) (C_is_zone : Cal P w K mg "is_zone" ["zone", "size"] 1 (sp_is_zone K)) : Cal P w K mg "good_harbours" ["harbours", "size"] 2 (sp_good_harbours K) := by
  obtain ⟨f, fd, F, g⟩ := D.ex
  refine ⟨f, fd, g, F.kp, bindsF F (fun _ _ _ _ _ _ us hl => match us, hl with | [_, _], _ => rfl), fun base => F.ok sc_good_harbours (fun vs H Q E h => ?_) (fun cdv A outer s H0 vs Q E hr h => ?_)⟩
  · rcases h with ⟨v0, F0, d0, d1, r, rfl, r0, hm, hQ⟩ | ⟨v0, d0, d1, r, rfl, r0, hm, hQ⟩
    all_goals rfl
  · rcases h with h | h
    ·
      obtain ⟨v0, F0, d0, d1, r, rfl, r0, hm, hQ⟩ := h
      refine ⟨_, pss_cons (ps_ret (pe_cc C_is_zone hr (pa_cons (pv 0) (pa_cons (pv 1) pa_nil)))) pss_nil, ?_⟩
      have c0 : Chg ([] : List Addr) H0 H0 := Chg.refl H0
      unfold Mi.m_good_harbours_0 at hm
      refine q_ret ?_
      refine w_call ?_
      refine w_args (va_cons (val_var rfl) (va_cons (val_var rfl) va_nil)) ?_
      obtain ⟨q1, hq1, hm⟩ := Mi.bnd hm
      refine Or.inl ⟨v0, F0, d0, d1, q1, rfl, r0, hq1, fun H3 c2  => ?_⟩
      have r0 := Ty.ex r0 c2
      have c0 := c0.trans c2.none
      obtain rfl := Option.some.inj hm
      exact hQ _ c0 
    ·
      obtain ⟨v0, d0, d1, r, rfl, r0, hm, hQ⟩ := h
      refine ⟨_, pss_cons (ps_ret (pe_cc C_is_zone hr (pa_cons (pv 0) (pa_cons (pv 1) pa_nil)))) pss_nil, ?_⟩
      have c0 : Chg ([] : List Addr) H0 H0 := Chg.refl H0
      unfold Mi.m_good_harbours_1 at hm
      refine q_ret ?_
      refine w_call ?_
      refine w_args (va_cons (val_var rfl) (va_cons (val_var rfl) va_nil)) ?_
      obtain ⟨q1, hq1, hm⟩ := Mi.bnd hm
      refine Or.inr (⟨v0, d0, d1, q1, rfl, r0, hq1, fun H3 c2  => ?_⟩)
      have r0 := Ty.fz r0 c2
      have c0 := c0.trans c2.none
      obtain rfl := Option.some.inj hm
      exact hQ _ c0 
abbrev s_ordered_lanes : Stmt := topS 16
abbrev N_ordered_lanes : List Str := ["lanes", "one", "other"]
theorem sc_ordered_lanes : FnScope ["lanes", "one", "other"] ["lanes"] (defScope s_ordered_lanes) := ⟨rfl, rfl, rfl, by decide +kernel, rfl, by decide +kernel, by decide +kernel⟩
def sp_ordered_lanes (K : PySem.W.Frag) : Sp := fun vs H Q _ => (∃ (v0 : V) (F0 : List Addr) (d0 : (List (Int × Int))) (r : (List (Int × Int))), vs = [v0] ∧ (yLst (yTup (sCons yInt (sOne yInt)))).rep K H F0 v0 d0 ∧ Mi.m_ordered_lanes_0 d0 = some r ∧ ∀ v H', Chg ([]) H H' → (yTupL (yTup (sCons yInt (sOne yInt)))).rep K H' [] v r → Q v H') ∨ (∃ (v0 : V) (d0 : (List (Int × Int))) (r : (List (Int × Int))), vs = [v0] ∧ (yTupL (yTup (sCons yInt (sOne yInt)))).rep K H [] v0 d0 ∧ Mi.m_ordered_lanes_1 d0 = some r ∧ ∀ v H', Chg ([]) H H' → (yTupL (yTup (sCons yInt (sOne yInt)))).rep K H' [] v r → Q v H')
theorem ok_ordered_lanes (B : Bi mg) (CN : Cs K mg) (D : Dfn K mg "ordered_lanes" s_ordered_lanes)  : Cal P w K mg "ordered_lanes" ["lanes"] 1 (sp_ordered_lanes K) := by
  obtain ⟨f, fd, F, g⟩ := D.ex
  refine ⟨f, fd, g, F.kp, bindsF F (fun _ _ _ _ _ _ us hl => match us, hl with | [_], _ => rfl), fun base => F.ok sc_ordered_lanes (fun vs H Q E h => ?_) (fun cdv A outer s H0 vs Q E hr h => ?_)⟩
  · rcases h with ⟨v0, F0, d0, r, rfl, r0, hm, hQ⟩ | ⟨v0, d0, r, rfl, r0, hm, hQ⟩
    all_goals rfl
  · rcases h with h | h
    ·
      obtain ⟨v0, F0, d0, r, rfl, r0, hm, hQ⟩ := h
      refine ⟨_, pss_cons (ps_ret (pe_callTy (cl_tuple (K := K)) (by rfl) B.tuple (by decide +kernel) (pa_cons (pe_callB (cl_sortP (K := K)) (by rfl) B.sorted (by decide +kernel) (pa_cons (pe_lc (own := [("one", 1), ("other", 2)]) rfl sc_ordered_lanes.nd (pi_list (pv 0)) (blkOk_by (own := [("one", 1), ("other", 2)]) (N := N_ordered_lanes) (sc := defScope s_ordered_lanes) (by decide +kernel)) (fun _ _ _ _ _ => (pg_tupk (K := K) (n := 2) rfl (pgs_cons (pg_name (i := 1) sc_ordered_lanes.nd rfl (.inl rfl)) (pgs_cons (pg_name (i := 2) sc_ordered_lanes.nd rfl (.inl rfl)) pgs_nil)))) (fun _ _ _ _ _ => pts_nil) (fun _ _ _ _ _ => (pe_tup (pa_cons (pe_callB (cl_min2 rfl) (by rfl) B.min (by decide +kernel) (pa_cons (pv 1) (pa_cons (pv 2) pa_nil))) (pa_cons (pe_callB (cl_max2 rfl) (by rfl) B.max (by decide +kernel) (pa_cons (pv 1) (pa_cons (pv 2) pa_nil))) pa_nil))))) pa_nil)) pa_nil))) pss_nil, ?_⟩
      have c0 : Chg ([] : List Addr) H0 H0 := Chg.refl H0
      unfold Mi.m_ordered_lanes_0 at hm
      refine q_ret ?_
      refine w_cb ?_
      refine w_cons ?_
      refine w_cb ?_
      refine w_cons ?_
      refine w_lc ?_
      refine w_iList ?_
      refine c_val (val_var rfl) ?_
      obtain ⟨e1, he1, hm⟩ := Mi.bnd hm
      refine kc_lst (K := K) (τ := (yTup (sCons yInt (sOne yInt)))) r0 (fun D3 i H' => ∃ (s2 : (List (Int × Int))), Chg ([] : List Addr) H0 H' ∧ (yLst (yTup (sCons yInt (sOne yInt)))).rep K H' F0 v0 d0 ∧ (yLst (yTup (sCons yInt (sOne yInt)))).rep K H' [D3] (.ref D3) s2 ∧ Dj F0 [D3] ∧ (∀ a ∈ [D3], H0 a = none) ∧ Mi.forN (Mi.m_ordered_lanes_0_b1) s2 (List.drop i d0) = some e1) (fun D3 H9 np8 c7 r4 => ⟨([] : (List (Int × Int))), c0.trans c7.none, (Ty.ex r0 c7), r4, Ty.nin r0 np8, one_fresh (c0.dom D3 np8), he1⟩) (fun D3 i H' hp => by obtain ⟨s2, c0, r0, r4, d5, n6, _⟩ := hp; exact r0) (fun D3 i12 x11 u14 H13 hx10 r15 hp => ?_) (fun D3 H' np8 hp => ?_)
      ·
        obtain ⟨s2, c0, r0, r4, d5, n6, hle1⟩ := hp
        obtain ⟨_, hbe1, hle1⟩ := Mi.forN_go hle1 hx10
        unfold Mi.m_ordered_lanes_0_b1 at hbe1
        refine g_tup2 r15 fun u18 u19 r20 r21 => ?_
        obtain ⟨_, rfl⟩ := r20
        obtain ⟨_, rfl⟩ := r21
        refine ⟨rfl, ?_⟩
        refine st_eqT (σ' := [some v0, some (.int x11.1), some (.int x11.2)]) rfl ?_
        refine w_yes ?_
        refine iteT ?_
        refine w_tup ?_
        refine w_args (va_cons (val_min2 (val_var rfl) (val_var rfl)) (va_cons (val_max2 (val_var rfl) (val_var rfl)) va_nil)) ?_
        refine e_tup (K := K) (ty := (sCons yInt (sOne yInt))) (F := []) (d := ((min x11.1 x11.2), (max x11.1 x11.2))) (by exact Nat.le_of_ble_eq_true rfl) ⟨_, _, _, _, rfl, rfl, yInt_i, ⟨_, rfl, yInt_i⟩⟩ fun p22 H26 np25 c23 r24 => ?_
        have r0 := Ty.ex r0 c23
        have r4 := Ty.ex r4 c23
        have c0 := c0.trans c23.none
        obtain ⟨x27, hx27, hbe1⟩ := Mi.bnd hbe1
        refine e_app r4 r24 hx27 fun H29 c28 r4 => ?_
        have r0 := Ty.chg r0 c28 d5
        have c0 := c0.join c28 (fun a h => .inr (n6 a h))
        obtain rfl := Option.some.inj hbe1
        exact ⟨x27, c0, r0, r4, d5, n6, hle1⟩
      obtain ⟨s2, c0, r0, r4, d5, n6, hle1⟩ := hp
      obtain rfl := Mi.forN_end hle1
      refine w_nil ?_
      refine w_sortedP r4 fun p30 H34 np33 c31 r32 => ?_
      have d35 : Dj F0 [p30] := Ty.nin r0 np33
      have d36 : Dj [D3] [p30] := Ty.nin r4 np33
      have n37 : ∀ a ∈ [p30], H0 a = none := one_fresh (c0.dom p30 np33)
      have r0 := Ty.ex r0 c31
      have r4 := Ty.ex r4 c31
      have c0 := c0.trans c31.none
      refine w_nil ?_
      refine w_tupleL r32 fun v38 H39 c40 r41 => ?_
      have r0 := Ty.ex r0 c40
      have r32 := Ty.ex r32 c40
      have c0 := c0.trans c40.none
      obtain rfl := Option.some.inj hm
      exact hQ _ _ c0 r41 
    ·
      obtain ⟨v0, d0, r, rfl, r0, hm, hQ⟩ := h
      refine ⟨_, pss_cons (ps_ret (pe_callTy (cl_tuple (K := K)) (by rfl) B.tuple (by decide +kernel) (pa_cons (pe_callB (cl_sortP (K := K)) (by rfl) B.sorted (by decide +kernel) (pa_cons (pe_lc (own := [("one", 1), ("other", 2)]) rfl sc_ordered_lanes.nd (pi_tup (pv 0)) (blkOk_by (own := [("one", 1), ("other", 2)]) (N := N_ordered_lanes) (sc := defScope s_ordered_lanes) (by decide +kernel)) (fun _ _ _ _ _ => (pg_tupk (K := K) (n := 2) rfl (pgs_cons (pg_name (i := 1) sc_ordered_lanes.nd rfl (.inl rfl)) (pgs_cons (pg_name (i := 2) sc_ordered_lanes.nd rfl (.inl rfl)) pgs_nil)))) (fun _ _ _ _ _ => pts_nil) (fun _ _ _ _ _ => (pe_tup (pa_cons (pe_callB (cl_min2 rfl) (by rfl) B.min (by decide +kernel) (pa_cons (pv 1) (pa_cons (pv 2) pa_nil))) (pa_cons (pe_callB (cl_max2 rfl) (by rfl) B.max (by decide +kernel) (pa_cons (pv 1) (pa_cons (pv 2) pa_nil))) pa_nil))))) pa_nil)) pa_nil))) pss_nil, ?_⟩
      have c0 : Chg ([] : List Addr) H0 H0 := Chg.refl H0
      unfold Mi.m_ordered_lanes_1 at hm
      refine q_ret ?_
      refine w_cb ?_
      refine w_cons ?_
      refine w_cb ?_
      refine w_cons ?_
      refine w_lc ?_
      refine w_iTup ?_
      refine c_val (val_var rfl) ?_
      obtain ⟨e1, he1, hm⟩ := Mi.bnd hm
      refine kc_tup (K := K) (τ := (yTup (sCons yInt (sOne yInt)))) r0 (fun D3 i H' => ∃ (s2 : (List (Int × Int))), Chg ([] : List Addr) H0 H' ∧ (yTupL (yTup (sCons yInt (sOne yInt)))).rep K H' [] v0 d0 ∧ (yLst (yTup (sCons yInt (sOne yInt)))).rep K H' [D3] (.ref D3) s2 ∧ (∀ a ∈ [D3], H0 a = none) ∧ Mi.forN (Mi.m_ordered_lanes_1_b1) s2 (List.drop i d0) = some e1) (fun D3 H8 np7 c6 r4 => ⟨([] : (List (Int × Int))), c0.trans c6.none, (Ty.fz r0 c6), r4, one_fresh (c0.dom D3 np7), he1⟩) (fun D3 i H' hp => by obtain ⟨s2, c0, r0, r4, n5, _⟩ := hp; exact r0) (fun D3 i11 x10 u13 H12 hx9 r14 hp => ?_) (fun D3 H' np7 hp => ?_)
      ·
        obtain ⟨s2, c0, r0, r4, n5, hle1⟩ := hp
        obtain ⟨_, hbe1, hle1⟩ := Mi.forN_go hle1 hx9
        unfold Mi.m_ordered_lanes_1_b1 at hbe1
        refine g_tup2 r14 fun u17 u18 r19 r20 => ?_
        obtain ⟨_, rfl⟩ := r19
        obtain ⟨_, rfl⟩ := r20
        refine ⟨rfl, ?_⟩
        refine st_eqT (σ' := [some v0, some (.int x10.1), some (.int x10.2)]) rfl ?_
        refine w_yes ?_
        refine iteT ?_
        refine w_tup ?_
        refine w_args (va_cons (val_min2 (val_var rfl) (val_var rfl)) (va_cons (val_max2 (val_var rfl) (val_var rfl)) va_nil)) ?_
        refine e_tup (K := K) (ty := (sCons yInt (sOne yInt))) (F := []) (d := ((min x10.1 x10.2), (max x10.1 x10.2))) (by exact Nat.le_of_ble_eq_true rfl) ⟨_, _, _, _, rfl, rfl, yInt_i, ⟨_, rfl, yInt_i⟩⟩ fun p21 H25 np24 c22 r23 => ?_
        have r0 := Ty.fz r0 c22
        have r4 := Ty.ex r4 c22
        have c0 := c0.trans c22.none
        obtain ⟨x26, hx26, hbe1⟩ := Mi.bnd hbe1
        refine e_app r4 r23 hx26 fun H28 c27 r4 => ?_
        have r0 := Ty.fz r0 c27
        have c0 := c0.join c27 (fun a h => .inr (n5 a h))
        obtain rfl := Option.some.inj hbe1
        exact ⟨x26, c0, r0, r4, n5, hle1⟩
      obtain ⟨s2, c0, r0, r4, n5, hle1⟩ := hp
      obtain rfl := Mi.forN_end hle1
      refine w_nil ?_
      refine w_sortedP r4 fun p29 H33 np32 c30 r31 => ?_
      have d34 : Dj [D3] [p29] := Ty.nin r4 np32
      have n35 : ∀ a ∈ [p29], H0 a = none := one_fresh (c0.dom p29 np32)
      have r0 := Ty.fz r0 c30
      have r4 := Ty.ex r4 c30
      have c0 := c0.trans c30.none
      refine w_nil ?_
      refine w_tupleL r31 fun v36 H37 c38 r39 => ?_
      have r0 := Ty.fz r0 c38
      have r31 := Ty.ex r31 c38
      have c0 := c0.trans c38.none
      obtain rfl := Option.some.inj hm
      exact hQ _ _ c0 r39 
abbrev s_joined_places : Stmt := topS 17
abbrev N_joined_places : List Str := ["size", "lanes", "rows", "low", "high", "place", "row"]
theorem sc_joined_places : FnScope ["size", "lanes", "rows", "low", "high", "place", "row"] ["size", "lanes"] (defScope s_joined_places) := ⟨rfl, rfl, rfl, by decide +kernel, rfl, by decide +kernel, by decide +kernel⟩
def sp_joined_places (K : PySem.W.Frag) : Sp := fun vs H Q _ => ∃ (d0 : Int) (v1 : V) (d1 : (List (Int × Int))) (r : (List (List Int))), vs = [(.int d0), v1] ∧ (yTupL (yTup (sCons yInt (sOne yInt)))).rep K H [] v1 d1 ∧ Mi.m_joined_places d0 d1 = some r ∧ ∀ v H', Chg ([]) H H' → (yTupL (yTupL yInt)).rep K H' [] v r → Q v H'
theorem ok_joined_places (B : Bi mg) (CN : Cs K mg) (D : Dfn K mg "joined_places" s_joined_places)  : Cal P w K mg "joined_places" ["size", "lanes"] 1 (sp_joined_places K) := by
  obtain ⟨f, fd, F, g⟩ := D.ex
  refine ⟨f, fd, g, F.kp, bindsF F (fun _ _ _ _ _ _ us hl => match us, hl with | [_, _], _ => rfl), fun base => F.ok sc_joined_places (fun vs H Q E h => ?_) (fun cdv A outer s H0 vs Q E hr h => ?_)⟩
  · obtain ⟨d0, v1, d1, r, rfl, r1, hm, hQ⟩ := h; rfl
  ·
    obtain ⟨d0, v1, d1, r, rfl, r1, hm, hQ⟩ := h
    refine ⟨_, pss_cons (ps_setLc (i := 2) (own := [("place", 5)]) rfl sc_joined_places.nd rfl rfl (sw_true rfl rfl rfl (by decide +kernel)) (pi_range1 (by rfl) B.range (pa_cons (pv 0) pa_nil)) (blkOk_by (own := [("place", 5)]) (N := N_joined_places) (sc := defScope s_joined_places) (by decide +kernel)) (fun _ _ _ _ _ => (pg_name (i := 5) sc_joined_places.nd rfl (.inl rfl))) (fun _ _ _ _ _ => pts_nil) (fun _ _ _ _ _ => (pe_lst pa_nil)))
      (pss_cons (ps_for PassesOwn.never rfl (pi_tup (pv 1)) (pg_tupk (K := K) (n := 2) rfl (pgs_cons (pg_name (i := 3) sc_joined_places.nd rfl (.inl rfl)) (pgs_cons (pg_name (i := 4) sc_joined_places.nd rfl (.inl rfl)) pgs_nil))) (pss_cons (ps_expr (pe_bm PySem.F.plainAttrs_list PySem.F.slot_list_append PySem.F.type_list_append mt_append (pe_ix (ix_l (K := K)) (pv 2) (pv 3) (fun _ _ => rfl)) (pa_cons (pv 4) pa_nil)))
      (pss_cons (ps_expr (pe_bm PySem.F.plainAttrs_list PySem.F.slot_list_append PySem.F.type_list_append mt_append (pe_ix (ix_l (K := K)) (pv 2) (pv 4) (fun _ _ => rfl)) (pa_cons (pv 3) pa_nil)))
      (pss_nil))))
      (pss_cons (ps_ret (pe_callTy (cl_tuple (K := K)) (by rfl) B.tuple (by decide +kernel) (pa_cons (pe_lc (own := [("row", 6)]) rfl sc_joined_places.nd (pi_list (pv 2)) (blkOk_by (own := [("row", 6)]) (N := N_joined_places) (sc := defScope s_joined_places) (by decide +kernel)) (fun _ _ _ _ _ => (pg_name (i := 6) sc_joined_places.nd rfl (.inl rfl))) (fun _ _ _ _ _ => pts_nil) (fun _ _ _ _ _ => (pe_callTy (cl_tuple (K := K)) (by rfl) B.tuple (by decide +kernel) (pa_cons (pv 6) pa_nil)))) pa_nil))) pss_nil)), ?_⟩
    have c0 : Chg ([] : List Addr) H0 H0 := Chg.refl H0
    unfold Mi.m_joined_places at hm
    refine q_asg ?_
    refine w_lc ?_
    refine w_iRng1 ?_
    refine w_args (va_cons (val_var rfl) va_nil) ?_
    obtain ⟨g1, hg1, hm⟩ := Mi.bnd hm
    obtain ⟨e2, he2, hm⟩ := Mi.bnd hm
    refine kc_rng1 (K := K) (τ := yInt) hg1 (fun D4 i H' => ∃ (s3 : (List (List Int))) (F6 : List Addr), Chg ([] : List Addr) H0 H' ∧ (yTupL (yTup (sCons yInt (sOne yInt)))).rep K H' [] v1 d1 ∧ (yOwn (yLst yInt)).rep K H' F6 (.ref D4) s3 ∧ (∀ a ∈ F6, H0 a = none) ∧ Mi.forN (Mi.m_joined_places_b1) s3 (List.drop i g1) = some e2) (fun D4 H10 np9 c8 r5 => ⟨([] : (List (List Int))), [D4], c0.trans c8.none, (Ty.fz r1 c8), own_nil r5, one_fresh (c0.dom D4 np9), he2⟩) (fun D4 i13 x12 H14 hx11 hp => ?_) (fun D4 H' np9 hp => ?_)
    ·
      obtain ⟨s3, F6, c0, r1, r5, n7, hle2⟩ := hp
      obtain ⟨_, hbe2, hle2⟩ := Mi.forN_go hle2 hx11
      unfold Mi.m_joined_places_b1 at hbe2
      refine g_name (σ' := [some (.int d0), some v1, none, none, none, some (.int x12), none]) rfl ?_
      refine ⟨rfl, ?_⟩
      refine w_yes ?_
      refine iteT ?_
      refine w_lst ?_
      refine w_args va_nil ?_
      refine e_lst (K := K) (τ := yInt) (by exact Nat.le_of_ble_eq_true rfl) .nil fun p19 H23 np22 c20 r21 => ?_
      have d24 : Dj F6 [p19] := Ty.nin r5 np22
      have n25 : ∀ a ∈ [p19], H0 a = none := one_fresh (c0.dom p19 np22)
      have r1 := Ty.fz r1 c20
      have r5 := Ty.ex r5 c20
      have c0 := c0.trans c20.none
      obtain ⟨x26, hx26, hbe2⟩ := Mi.bnd hbe2
      refine e_appO r5 r21 (d24) (lst_nd r21) hx26 fun H30 F31 c29 r5 sa32 sb33 => ?_
      have r1 := Ty.fz r1 c29
      have r21 := Ty.chg r21 c29 d24.symm
      have c0 := c0.join c29 (fun a h => .inr (n7 a h))
      have n34 : ∀ a ∈ F31, H0 a = none := fresh_grow n7 n25 sb33
      obtain rfl := Option.some.inj hbe2
      exact ⟨x26, F31, c0, r1, r5, n34, hle2⟩
    obtain ⟨s3, F6, c0, r1, r5, n7, hle2⟩ := hp
    obtain rfl := Mi.forN_end hle2
    refine g_name (σ' := [some (.int d0), some v1, some (.ref D4), none, none, none, none]) rfl ?_
    refine q_for ?_
    refine w_iTup ?_
    refine c_val (val_var rfl) ?_
    obtain ⟨e35, he35, hm⟩ := Mi.bnd hm
    refine l_tup r1 (fun i σ' H' => ∃ (s36 : (List (List Int))) (y41 : Option V) (y42 : Option V) (v37 : V) (F39 : List Addr), σ' = [some (.int d0), some v1, some v37, y41, y42, none, none] ∧ Chg ([] : List Addr) H0 H' ∧ (yTupL (yTup (sCons yInt (sOne yInt)))).rep K H' [] v1 d1 ∧ (yOwn (yLst yInt)).rep K H' F39 v37 s36 ∧ (∀ a ∈ F39, H0 a = none) ∧ Mi.forN (Mi.m_joined_places_b2) s36 (List.drop i d1) = some e35) ⟨s3, none, none, (.ref D4), F6, rfl, c0, r1, r5, n7, he35⟩ (fun i σ' H' hp => by obtain ⟨s36, y41, y42, v37, F39, rfl, c0, r1, r38, n40, _⟩ := hp; exact r1) (fun i45 x44 u46 σ' H' hx43 r47 hp => ?_) (fun σ' H' hp => ?_)
    ·
      obtain ⟨s36, y41, y42, v37, F39, rfl, c0, r1, r38, n40, hle35⟩ := hp
      obtain ⟨_, hbe35, hle35⟩ := Mi.forN_go hle35 hx43
      unfold Mi.m_joined_places_b2 at hbe35
      refine g_tup2 r47 fun u48 u49 r50 r51 => ?_
      obtain ⟨_, rfl⟩ := r50
      obtain ⟨_, rfl⟩ := r51
      refine g_names (σ' := [some (.int d0), some v1, some v37, some (.int x44.1), some (.int x44.2), none, none]) rfl ?_
      obtain ⟨x52, hx52, hbe35⟩ := Mi.bnd hbe35
      obtain ⟨x53, hx53, hbe35⟩ := Mi.bnd hbe35
      obtain ⟨u54, tu55, kx56, ku57, ka58⟩ := itm_O r38 hx52
      refine q_drop (w_bm (c_val (ku57 (val_var rfl) (val_var rfl)) ⟨tu55, w_args (va_cons (val_var rfl) va_nil) ?_⟩))
      refine ka58 yInt_i hx53 fun H60 c59 r38 => ?_
      have r1 := Ty.fz r1 c59
      have c0 := c0.join c59 (fun a h => .inr (n40 a h))
      obtain ⟨x61, hx61, hbe35⟩ := Mi.bnd hbe35
      obtain ⟨x62, hx62, hbe35⟩ := Mi.bnd hbe35
      obtain ⟨u63, tu64, kx65, ku66, ka67⟩ := itm_O r38 hx61
      refine q_drop (w_bm (c_val (ku66 (val_var rfl) (val_var rfl)) ⟨tu64, w_args (va_cons (val_var rfl) va_nil) ?_⟩))
      refine ka67 yInt_i hx62 fun H69 c68 r38 => ?_
      have r1 := Ty.fz r1 c68
      have c0 := c0.join c68 (fun a h => .inr (n40 a h))
      refine w_nextJ ?_
      obtain rfl := Option.some.inj hbe35
      exact ⟨_, (some (.int x44.1)), (some (.int x44.2)), v37, F39, rfl, c0, r1, r38, n40, hle35⟩
    obtain ⟨s36, y41, y42, v37, F39, rfl, c0, r1, r38, n40, hle35⟩ := hp
    obtain rfl := Mi.forN_end hle35
    refine q_ret ?_
    refine w_cb ?_
    refine w_cons ?_
    refine w_lc ?_
    refine w_iList ?_
    refine c_val (val_var rfl) ?_
    obtain ⟨e70, he70, hm⟩ := Mi.bnd hm
    refine kc_lsg (K := K) (τ := (yTupL yInt)) (own_lsg r38) (fun D72 i H' => ∃ (s71 : (List (List Int))), Chg ([] : List Addr) H0 H' ∧ (yTupL (yTup (sCons yInt (sOne yInt)))).rep K H' [] v1 d1 ∧ (yOwn (yLst yInt)).rep K H' F39 v37 s36 ∧ (yLst (yTupL yInt)).rep K H' [D72] (.ref D72) s71 ∧ Dj F39 [D72] ∧ (∀ a ∈ [D72], H0 a = none) ∧ Mi.forN (Mi.m_joined_places_b3) s71 (List.drop i s36) = some e70) (fun D72 H78 np77 c76 r73 => ⟨([] : (List (List Int))), c0.trans c76.none, (Ty.fz r1 c76), (Ty.ex r38 c76), r73, Ty.nin r38 np77, one_fresh (c0.dom D72 np77), he70⟩) (fun D72 i H' hp => by obtain ⟨s71, c0, r1, r38, r73, d74, n75, _⟩ := hp; exact (own_lsg r38)) (fun D72 i81 x80 u83 F85 H82 hx79 r84 su86 hp => ?_) (fun D72 H' np77 hp => ?_)
    ·
      obtain ⟨s71, c0, r1, r38, r73, d74, n75, hle70⟩ := hp
      obtain ⟨_, hbe70, hle70⟩ := Mi.forN_go hle70 hx79
      unfold Mi.m_joined_places_b3 at hbe70
      have d87 : Dj F85 [D72] := Dj.sub (d74) su86
      have n88 : ∀ a ∈ F85, H0 a = none := fun a h => n40 a (su86 a h)
      refine g_name (σ' := [some (.int d0), some v1, some v37, y41, y42, none, some u83]) rfl ?_
      refine ⟨rfl, ?_⟩
      refine w_yes ?_
      refine iteT ?_
      refine w_cb ?_
      refine w_args (va_cons (val_var rfl) va_nil) ?_
      refine w_tupleL r84 fun v89 H90 c91 r92 => ?_
      have r1 := Ty.fz r1 c91
      have r38 := Ty.ex r38 c91
      have r84 := Ty.ex r84 c91
      have r73 := Ty.ex r73 c91
      have c0 := c0.trans c91.none
      obtain ⟨x93, hx93, hbe70⟩ := Mi.bnd hbe70
      refine e_app r73 r92 hx93 fun H95 c94 r73 => ?_
      have r1 := Ty.fz r1 c94
      have r38 := Ty.chg r38 c94 d74
      have r84 := Ty.chg r84 c94 d87
      have c0 := c0.join c94 (fun a h => .inr (n75 a h))
      obtain rfl := Option.some.inj hbe70
      exact ⟨x93, c0, r1, r38, r73, d74, n75, hle70⟩
    obtain ⟨s71, c0, r1, r38, r73, d74, n75, hle70⟩ := hp
    obtain rfl := Mi.forN_end hle70
    refine w_nil ?_
    refine w_tupleL r73 fun v96 H97 c98 r99 => ?_
    have r1 := Ty.fz r1 c98
    have r38 := Ty.ex r38 c98
    have r73 := Ty.ex r73 c98
    have c0 := c0.trans c98.none
    obtain rfl := Option.some.inj hm
    exact hQ _ _ c0 r99 
abbrev s_Chart_init : Stmt := inClass (topS 18) 0
abbrev N_Chart_init : List Str := ["self", "depths", "lanes", "tide", "harbours"]
theorem sc_Chart_init : FnScope ["self", "depths", "lanes", "tide", "harbours"] ["self", "depths", "lanes", "tide", "harbours"] (defScope s_Chart_init) := ⟨rfl, rfl, rfl, by decide +kernel, rfl, by decide +kernel, by decide +kernel⟩
def sp_Chart_init (K : PySem.W.Frag) (C_Chart : Addr) : Sp := fun vs H Q _ => (∃ (x0 dx0 : Addr) (v1 : V) (F1 : List Addr) (d1 : (List Int)) (v2 : V) (F2 : List Addr) (d2 : (List (Int × Int))) (v3 : V) (F3 : List Addr) (d3 : (List Int)) (v4 : V) (F4 : List Addr) (d4 : (List Int)) (r : (Int × (List Int) × (List (Int × Int)) × (List Int) × (List Int) × (List (List Int)))), vs = [.ref x0, v1, v2, v3, v4] ∧ (yPart C_Chart dx0 []).rep K H [x0] (.ref x0) [] ∧ (yLst yInt).rep K H F1 v1 d1 ∧ (yLst (yTup (sCons yInt (sOne yInt)))).rep K H F2 v2 d2 ∧ (yLst yInt).rep K H F3 v3 d3 ∧ (yLst yInt).rep K H F4 v4 d4 ∧ Dj [x0] F1 ∧ Dj [x0] F2 ∧ Dj [x0] F3 ∧ Dj [x0] F4 ∧ Mi.m_Chart_init_0 d1 d2 d3 d4 = some r ∧ ∀ H', Chg [x0] H H' → (yObj C_Chart nm_Chart ty_Chart).rep K H' [] (.ref x0) r → Q .non H') ∨ (∃ (x0 dx0 : Addr) (v1 : V) (d1 : (List Int)) (v2 : V) (d2 : (List (Int × Int))) (v3 : V) (d3 : (List Int)) (v4 : V) (d4 : (List Int)) (r : (Int × (List Int) × (List (Int × Int)) × (List Int) × (List Int) × (List (List Int)))), vs = [.ref x0, v1, v2, v3, v4] ∧ (yPart C_Chart dx0 []).rep K H [x0] (.ref x0) [] ∧ (yTupL yInt).rep K H [] v1 d1 ∧ (yTupL (yTup (sCons yInt (sOne yInt)))).rep K H [] v2 d2 ∧ (yTupL yInt).rep K H [] v3 d3 ∧ (yTupL yInt).rep K H [] v4 d4 ∧ Mi.m_Chart_init_1 d1 d2 d3 d4 = some r ∧ ∀ H', Chg [x0] H H' → (yObj C_Chart nm_Chart ty_Chart).rep K H' [] (.ref x0) r → Q .non H')
theorem ok_Chart_init (B : Bi mg) (CN : Cs K mg) {C_Chart : Addr} (T_Chart : Tx K mg C_Chart "Chart" nm_Chart) (C_good_depths : Cal P w K mg "good_depths" ["depths"] 2 (sp_good_depths K)) (C_good_lanes : Cal P w K mg "good_lanes" ["lanes", "size"] 1 (sp_good_lanes K)) (C_good_tide : Cal P w K mg "good_tide" ["tide"] 2 (sp_good_tide K)) (C_good_harbours : Cal P w K mg "good_harbours" ["harbours", "size"] 2 (sp_good_harbours K)) (C_ordered_lanes : Cal P w K mg "ordered_lanes" ["lanes"] 1 (sp_ordered_lanes K)) (C_joined_places : Cal P w K mg "joined_places" ["size", "lanes"] 1 (sp_joined_places K)) (D : DfnI K C_Chart "Chart.__init__" s_Chart_init (kw_Chart K) ) : CalI P w K mg C_Chart "Chart.__init__" s_Chart_init (kw_Chart K) ["self", "depths", "lanes", "tide", "harbours"] 3 (sp_Chart_init K C_Chart) := by
  obtain ⟨f, fd, F, g⟩ := D.ex
  refine ⟨f, fd, g, F, fun base => F.ok sc_Chart_init (fun vs H Q E h => ?_) (fun cdv A outer s H0 vs Q E hr h => ?_)⟩
  · rcases h with ⟨x0, dx0, v1, F1, d1, v2, F2, d2, v3, F3, d3, v4, F4, d4, r, rfl, rs, r1, r2, r3, r4, dd0_1, dd0_2, dd0_3, dd0_4, hm, hQ⟩ | ⟨x0, dx0, v1, d1, v2, d2, v3, d3, v4, d4, r, rfl, rs, r1, r2, r3, r4, hm, hQ⟩
    all_goals rfl
  · rcases h with h | h
    ·
      obtain ⟨x0, dx0, v1, F1, d1, v2, F2, d2, v3, F3, d3, v4, F4, d4, r, rfl, rs, r1, r2, r3, r4, dd0_1, dd0_2, dd0_3, dd0_4, hm, hQ⟩ := h
      refine ⟨_, pss_cons (ps_if (pt_not (pt_val (pe_cc C_good_depths hr (pa_cons (pv 1) pa_nil)))) (pss_cons ps_never pss_nil) (pss_nil))
      (pss_cons (ps_if (pt_not (pt_val (pe_cc C_good_lanes hr (pa_cons (pv 2) (pa_cons (pe_callB (cl_len (K := K)) (by rfl) B.len PySem.boot_len (pa_cons (pv 1) pa_nil)) pa_nil))))) (pss_cons ps_never pss_nil) (pss_nil))
      (pss_cons (ps_if (pt_not (pt_val (pe_cc C_good_tide hr (pa_cons (pv 3) pa_nil)))) (pss_cons ps_never pss_nil) (pss_nil))
      (pss_cons (ps_if (pt_not (pt_val (pe_cc C_good_harbours hr (pa_cons (pv 4) (pa_cons (pe_callB (cl_len (K := K)) (by rfl) B.len PySem.boot_len (pa_cons (pv 1) pa_nil)) pa_nil))))) (pss_cons ps_never pss_nil) (pss_nil))
      (pss_cons (ps_fld (pv 0) (pe_callB (cl_len (K := K)) (by rfl) B.len PySem.boot_len (pa_cons (pv 1) pa_nil)) rfl)
      (pss_cons (ps_fld (pv 0) (pe_callTy (cl_tuple (K := K)) (by rfl) B.tuple (by decide +kernel) (pa_cons (pv 1) pa_nil)) rfl)
      (pss_cons (ps_fld (pv 0) (pe_cc C_ordered_lanes hr (pa_cons (pv 2) pa_nil)) rfl)
      (pss_cons (ps_fld (pv 0) (pe_callTy (cl_tuple (K := K)) (by rfl) B.tuple (by decide +kernel) (pa_cons (pv 3) pa_nil)) rfl)
      (pss_cons (ps_fld (pv 0) (pe_callTy (cl_tuple (K := K)) (by rfl) B.tuple (by decide +kernel) (pa_cons (pe_callB (cl_sortedL (K := K)) (by rfl) B.sorted (by decide +kernel) (pa_cons (pv 4) pa_nil)) pa_nil)) rfl)
      (pss_cons (ps_fld (pv 0) (pe_cc C_joined_places hr (pa_cons (pe_fldk (K := K) (pv 0) (by rfl)) (pa_cons (pe_fldk (K := K) (pv 0) (by rfl)) pa_nil))) rfl)
      (pss_nil)))))))))), ?_⟩
      have c0 : Chg ([x0]) H0 H0 := Chg.refl H0
      unfold Mi.m_Chart_init_0 at hm
      refine q_ifS ?_
      refine w_not ?_
      refine w_B ?_
      refine w_call ?_
      refine w_args (va_cons (val_var rfl) va_nil) ?_
      obtain ⟨q1, hq1, hm⟩ := Mi.bnd hm
      refine Or.inl ⟨v1, F1, d1, q1, rfl, r1, hq1, fun H3 c2  => ?_⟩
      have rs := Ty.ex rs c2
      have r1 := Ty.ex r1 c2
      have r2 := Ty.ex r2 c2
      have r3 := Ty.ex r3 c2
      have r4 := Ty.ex r4 c2
      have c0 := c0.trans c2.none
      refine ⟨_, rfl, ?_⟩
      refine c_if (fun hb => ?_) (fun hb => ?_)
      ·
        replace hm := Mi.ifT hb hm
        cases hm
      replace hm := Mi.ifF hb hm
      refine w_fall ?_
      refine q_ifS ?_
      refine w_not ?_
      refine w_B ?_
      refine w_call ?_
      refine w_args (va_cons (val_var rfl) (va_cons (val_lenL r1 (val_var rfl)) va_nil)) ?_
      obtain ⟨q4, hq4, hm⟩ := Mi.bnd hm
      refine Or.inl ⟨v2, F2, d2, (d1.length : Int), q4, rfl, r2, hq4, fun H6 c5  => ?_⟩
      have rs := Ty.ex rs c5
      have r1 := Ty.ex r1 c5
      have r2 := Ty.ex r2 c5
      have r3 := Ty.ex r3 c5
      have r4 := Ty.ex r4 c5
      have c0 := c0.trans c5.none
      refine ⟨_, rfl, ?_⟩
      refine c_if (fun hb => ?_) (fun hb => ?_)
      ·
        replace hm := Mi.ifT hb hm
        cases hm
      replace hm := Mi.ifF hb hm
      refine w_fall ?_
      refine q_ifS ?_
      refine w_not ?_
      refine w_B ?_
      refine w_call ?_
      refine w_args (va_cons (val_var rfl) va_nil) ?_
      obtain ⟨q7, hq7, hm⟩ := Mi.bnd hm
      refine Or.inl ⟨v3, F3, d3, q7, rfl, r3, hq7, fun H9 c8  => ?_⟩
      have rs := Ty.ex rs c8
      have r1 := Ty.ex r1 c8
      have r2 := Ty.ex r2 c8
      have r3 := Ty.ex r3 c8
      have r4 := Ty.ex r4 c8
      have c0 := c0.trans c8.none
      refine ⟨_, rfl, ?_⟩
      refine c_if (fun hb => ?_) (fun hb => ?_)
      ·
        replace hm := Mi.ifT hb hm
        cases hm
      replace hm := Mi.ifF hb hm
      refine w_fall ?_
      refine q_ifS ?_
      refine w_not ?_
      refine w_B ?_
      refine w_call ?_
      refine w_args (va_cons (val_var rfl) (va_cons (val_lenL r1 (val_var rfl)) va_nil)) ?_
      obtain ⟨q10, hq10, hm⟩ := Mi.bnd hm
      refine Or.inl ⟨v4, F4, d4, (d1.length : Int), q10, rfl, r4, hq10, fun H12 c11  => ?_⟩
      have rs := Ty.ex rs c11
      have r1 := Ty.ex r1 c11
      have r2 := Ty.ex r2 c11
      have r3 := Ty.ex r3 c11
      have r4 := Ty.ex r4 c11
      have c0 := c0.trans c11.none
      refine ⟨_, rfl, ?_⟩
      refine c_if (fun hb => ?_) (fun hb => ?_)
      ·
        replace hm := Mi.ifT hb hm
        cases hm
      replace hm := Mi.ifF hb hm
      refine w_fall ?_
      refine q_fld ?_
      refine c_val (val_lenL r1 (val_var rfl)) ?_
      refine c_val (val_var rfl) ?_
      refine m_fldP rs T_Chart.cls (T_Chart.na "size" (by decide +kernel)) (by decide +kernel) rfl (by decide) rfl fun H14 c13 rs => ?_
      have r1 := Ty.chg r1 c13 dd0_1.symm
      have r2 := Ty.chg r2 c13 dd0_2.symm
      have r3 := Ty.chg r3 c13 dd0_3.symm
      have r4 := Ty.chg r4 c13 dd0_4.symm
      have c0 := c0.join c13 (fun a h => .inl (h))
      have rs : (yPart C_Chart dx0 (["size"] : List Str)).rep K _ [x0] (.ref x0) [(.int (d1.length : Int))] := rs
      refine q_fld ?_
      refine w_cb ?_
      refine w_args (va_cons (val_var rfl) va_nil) ?_
      refine w_tupleL r1 fun v15 H16 c17 r18 => ?_
      have rs := Ty.ex rs c17
      have r1 := Ty.ex r1 c17
      have r2 := Ty.ex r2 c17
      have r3 := Ty.ex r3 c17
      have r4 := Ty.ex r4 c17
      have c0 := c0.trans c17.none
      refine c_val (val_var rfl) ?_
      refine m_fldP rs T_Chart.cls (T_Chart.na "depths" (by decide +kernel)) (by decide +kernel) rfl (by decide) rfl fun H20 c19 rs => ?_
      have r1 := Ty.chg r1 c19 dd0_1.symm
      have r2 := Ty.chg r2 c19 dd0_2.symm
      have r3 := Ty.chg r3 c19 dd0_3.symm
      have r4 := Ty.chg r4 c19 dd0_4.symm
      have r18 := Ty.fz r18 c19
      have c0 := c0.join c19 (fun a h => .inl (h))
      have rs : (yPart C_Chart dx0 (["size", "depths"] : List Str)).rep K _ [x0] (.ref x0) [(.int (d1.length : Int)), v15] := rs
      refine q_fld ?_
      refine w_call ?_
      refine w_args (va_cons (val_var rfl) va_nil) ?_
      obtain ⟨q21, hq21, hm⟩ := Mi.bnd hm
      refine Or.inl ⟨v2, F2, d2, q21, rfl, r2, hq21, fun v24 H23 c22 r25  => ?_⟩
      have rs := Ty.ex rs c22
      have r1 := Ty.ex r1 c22
      have r2 := Ty.ex r2 c22
      have r3 := Ty.ex r3 c22
      have r4 := Ty.ex r4 c22
      have r18 := Ty.fz r18 c22
      have c0 := c0.trans c22.none
      refine c_val (val_var rfl) ?_
      refine m_fldP rs T_Chart.cls (T_Chart.na "lanes" (by decide +kernel)) (by decide +kernel) rfl (by decide) rfl fun H27 c26 rs => ?_
      have r1 := Ty.chg r1 c26 dd0_1.symm
      have r2 := Ty.chg r2 c26 dd0_2.symm
      have r3 := Ty.chg r3 c26 dd0_3.symm
      have r4 := Ty.chg r4 c26 dd0_4.symm
      have r18 := Ty.fz r18 c26
      have r25 := Ty.fz r25 c26
      have c0 := c0.join c26 (fun a h => .inl (h))
      have rs : (yPart C_Chart dx0 (["size", "depths", "lanes"] : List Str)).rep K _ [x0] (.ref x0) [(.int (d1.length : Int)), v15, v24] := rs
      refine q_fld ?_
      refine w_cb ?_
      refine w_args (va_cons (val_var rfl) va_nil) ?_
      refine w_tupleL r3 fun v28 H29 c30 r31 => ?_
      have rs := Ty.ex rs c30
      have r1 := Ty.ex r1 c30
      have r2 := Ty.ex r2 c30
      have r3 := Ty.ex r3 c30
      have r4 := Ty.ex r4 c30
      have r18 := Ty.fz r18 c30
      have r25 := Ty.fz r25 c30
      have c0 := c0.trans c30.none
      refine c_val (val_var rfl) ?_
      refine m_fldP rs T_Chart.cls (T_Chart.na "tide" (by decide +kernel)) (by decide +kernel) rfl (by decide) rfl fun H33 c32 rs => ?_
      have r1 := Ty.chg r1 c32 dd0_1.symm
      have r2 := Ty.chg r2 c32 dd0_2.symm
      have r3 := Ty.chg r3 c32 dd0_3.symm
      have r4 := Ty.chg r4 c32 dd0_4.symm
      have r18 := Ty.fz r18 c32
      have r25 := Ty.fz r25 c32
      have r31 := Ty.fz r31 c32
      have c0 := c0.join c32 (fun a h => .inl (h))
      have rs : (yPart C_Chart dx0 (["size", "depths", "lanes", "tide"] : List Str)).rep K _ [x0] (.ref x0) [(.int (d1.length : Int)), v15, v24, v28] := rs
      refine q_fld ?_
      refine w_cb ?_
      refine w_cons ?_
      refine w_cb ?_
      refine w_args (va_cons (val_var rfl) va_nil) ?_
      refine w_sortedL r4 fun p34 H38 np37 c35 r36 => ?_
      have d39 : Dj [x0] [p34] := Ty.nin rs np37
      have d40 : Dj F1 [p34] := Ty.nin r1 np37
      have d41 : Dj F2 [p34] := Ty.nin r2 np37
      have d42 : Dj F3 [p34] := Ty.nin r3 np37
      have d43 : Dj F4 [p34] := Ty.nin r4 np37
      have n44 : ∀ a ∈ [p34], H0 a = none := one_fresh (c0.dom p34 np37)
      have rs := Ty.ex rs c35
      have r1 := Ty.ex r1 c35
      have r2 := Ty.ex r2 c35
      have r3 := Ty.ex r3 c35
      have r4 := Ty.ex r4 c35
      have r18 := Ty.fz r18 c35
      have r25 := Ty.fz r25 c35
      have r31 := Ty.fz r31 c35
      have c0 := c0.trans c35.none
      refine w_nil ?_
      refine w_tupleL r36 fun v45 H46 c47 r48 => ?_
      have rs := Ty.ex rs c47
      have r1 := Ty.ex r1 c47
      have r2 := Ty.ex r2 c47
      have r3 := Ty.ex r3 c47
      have r4 := Ty.ex r4 c47
      have r18 := Ty.fz r18 c47
      have r25 := Ty.fz r25 c47
      have r31 := Ty.fz r31 c47
      have r36 := Ty.ex r36 c47
      have c0 := c0.trans c47.none
      refine c_val (val_var rfl) ?_
      refine m_fldP rs T_Chart.cls (T_Chart.na "harbours" (by decide +kernel)) (by decide +kernel) rfl (by decide) rfl fun H50 c49 rs => ?_
      have r1 := Ty.chg r1 c49 dd0_1.symm
      have r2 := Ty.chg r2 c49 dd0_2.symm
      have r3 := Ty.chg r3 c49 dd0_3.symm
      have r4 := Ty.chg r4 c49 dd0_4.symm
      have r18 := Ty.fz r18 c49
      have r25 := Ty.fz r25 c49
      have r31 := Ty.fz r31 c49
      have r48 := Ty.fz r48 c49
      have c0 := c0.join c49 (fun a h => .inl (h))
      have rs : (yPart C_Chart dx0 (["size", "depths", "lanes", "tide", "harbours"] : List Str)).rep K _ [x0] (.ref x0) [(.int (d1.length : Int)), v15, v24, v28, v45] := rs
      refine q_fld ?_
      refine w_call ?_
      refine w_args (va_cons (fld_part (n := 0) (by decide +kernel) rfl rfl T_Chart.cls (T_Chart.na "size" (by decide +kernel)) rs (val_var rfl)) (va_cons (fld_part (n := 2) (by decide +kernel) rfl rfl T_Chart.cls (T_Chart.na "lanes" (by decide +kernel)) rs (val_var rfl)) va_nil)) ?_
      obtain ⟨q51, hq51, hm⟩ := Mi.bnd hm
      refine ⟨(d1.length : Int), v24, q21, q51, rfl, r25, hq51, fun v54 H53 c52 r55  => ?_⟩
      have rs := Ty.ex rs c52
      have r1 := Ty.ex r1 c52
      have r2 := Ty.ex r2 c52
      have r3 := Ty.ex r3 c52
      have r4 := Ty.ex r4 c52
      have r18 := Ty.fz r18 c52
      have r25 := Ty.fz r25 c52
      have r31 := Ty.fz r31 c52
      have r48 := Ty.fz r48 c52
      have c0 := c0.trans c52.none
      refine c_val (val_var rfl) ?_
      refine m_fldE (ts := ty_Chart) (d := ((d1.length : Int), d1, q21, d3, (Mi.sortI d4), q51)) rs T_Chart.cls (T_Chart.na "joined" (by decide +kernel)) (by decide +kernel) rfl (by decide) rfl ⟨_, _, _, _, rfl, rfl, yInt_i, ⟨_, _, _, _, rfl, rfl, r18, ⟨_, _, _, _, rfl, rfl, r25, ⟨_, _, _, _, rfl, rfl, r31, ⟨_, _, _, _, rfl, rfl, r48, ⟨_, rfl, r55⟩⟩⟩⟩⟩⟩ fun H57 c56 rs => ?_
      have r1 := Ty.chg r1 c56 dd0_1.symm
      have r2 := Ty.chg r2 c56 dd0_2.symm
      have r3 := Ty.chg r3 c56 dd0_3.symm
      have r4 := Ty.chg r4 c56 dd0_4.symm
      have r18 := Ty.fz r18 c56
      have r25 := Ty.fz r25 c56
      have r31 := Ty.fz r31 c56
      have r48 := Ty.fz r48 c56
      have r55 := Ty.fz r55 c56
      have c0 := c0.join c56 (fun a h => .inl (h))
      refine w_next ?_
      obtain rfl := Option.some.inj hm
      exact hQ _ c0 rs
    ·
      obtain ⟨x0, dx0, v1, d1, v2, d2, v3, d3, v4, d4, r, rfl, rs, r1, r2, r3, r4, hm, hQ⟩ := h
      refine ⟨_, pss_cons (ps_if (pt_not (pt_val (pe_cc C_good_depths hr (pa_cons (pv 1) pa_nil)))) (pss_cons ps_never pss_nil) (pss_nil))
      (pss_cons (ps_if (pt_not (pt_val (pe_cc C_good_lanes hr (pa_cons (pv 2) (pa_cons (pe_callB (cl_len (K := K)) (by rfl) B.len PySem.boot_len (pa_cons (pv 1) pa_nil)) pa_nil))))) (pss_cons ps_never pss_nil) (pss_nil))
      (pss_cons (ps_if (pt_not (pt_val (pe_cc C_good_tide hr (pa_cons (pv 3) pa_nil)))) (pss_cons ps_never pss_nil) (pss_nil))
      (pss_cons (ps_if (pt_not (pt_val (pe_cc C_good_harbours hr (pa_cons (pv 4) (pa_cons (pe_callB (cl_len (K := K)) (by rfl) B.len PySem.boot_len (pa_cons (pv 1) pa_nil)) pa_nil))))) (pss_cons ps_never pss_nil) (pss_nil))
      (pss_cons (ps_fld (pv 0) (pe_callB (cl_len (K := K)) (by rfl) B.len PySem.boot_len (pa_cons (pv 1) pa_nil)) rfl)
      (pss_cons (ps_fld (pv 0) (pe_callTy (cl_tuple (K := K)) (by rfl) B.tuple (by decide +kernel) (pa_cons (pv 1) pa_nil)) rfl)
      (pss_cons (ps_fld (pv 0) (pe_cc C_ordered_lanes hr (pa_cons (pv 2) pa_nil)) rfl)
      (pss_cons (ps_fld (pv 0) (pe_callTy (cl_tuple (K := K)) (by rfl) B.tuple (by decide +kernel) (pa_cons (pv 3) pa_nil)) rfl)
      (pss_cons (ps_fld (pv 0) (pe_callTy (cl_tuple (K := K)) (by rfl) B.tuple (by decide +kernel) (pa_cons (pe_callB (cl_sortedT (K := K)) (by rfl) B.sorted (by decide +kernel) (pa_cons (pv 4) pa_nil)) pa_nil)) rfl)
      (pss_cons (ps_fld (pv 0) (pe_cc C_joined_places hr (pa_cons (pe_fldk (K := K) (pv 0) (by rfl)) (pa_cons (pe_fldk (K := K) (pv 0) (by rfl)) pa_nil))) rfl)
      (pss_nil)))))))))), ?_⟩
      have c0 : Chg ([x0]) H0 H0 := Chg.refl H0
      unfold Mi.m_Chart_init_1 at hm
      refine q_ifS ?_
      refine w_not ?_
      refine w_B ?_
      refine w_call ?_
      refine w_args (va_cons (val_var rfl) va_nil) ?_
      obtain ⟨q1, hq1, hm⟩ := Mi.bnd hm
      refine Or.inr (⟨v1, d1, q1, rfl, r1, hq1, fun H3 c2  => ?_⟩)
      have rs := Ty.ex rs c2
      have r1 := Ty.fz r1 c2
      have r2 := Ty.fz r2 c2
      have r3 := Ty.fz r3 c2
      have r4 := Ty.fz r4 c2
      have c0 := c0.trans c2.none
      refine ⟨_, rfl, ?_⟩
      refine c_if (fun hb => ?_) (fun hb => ?_)
      ·
        replace hm := Mi.ifT hb hm
        cases hm
      replace hm := Mi.ifF hb hm
      refine w_fall ?_
      refine q_ifS ?_
      refine w_not ?_
      refine w_B ?_
      refine w_call ?_
      refine w_args (va_cons (val_var rfl) (va_cons (val_lenT r1 (val_var rfl)) va_nil)) ?_
      obtain ⟨q4, hq4, hm⟩ := Mi.bnd hm
      refine Or.inr (⟨v2, d2, (d1.length : Int), q4, rfl, r2, hq4, fun H6 c5  => ?_⟩)
      have rs := Ty.ex rs c5
      have r1 := Ty.fz r1 c5
      have r2 := Ty.fz r2 c5
      have r3 := Ty.fz r3 c5
      have r4 := Ty.fz r4 c5
      have c0 := c0.trans c5.none
      refine ⟨_, rfl, ?_⟩
      refine c_if (fun hb => ?_) (fun hb => ?_)
      ·
        replace hm := Mi.ifT hb hm
        cases hm
      replace hm := Mi.ifF hb hm
      refine w_fall ?_
      refine q_ifS ?_
      refine w_not ?_
      refine w_B ?_
      refine w_call ?_
      refine w_args (va_cons (val_var rfl) va_nil) ?_
      obtain ⟨q7, hq7, hm⟩ := Mi.bnd hm
      refine Or.inr (⟨v3, d3, q7, rfl, r3, hq7, fun H9 c8  => ?_⟩)
      have rs := Ty.ex rs c8
      have r1 := Ty.fz r1 c8
      have r2 := Ty.fz r2 c8
      have r3 := Ty.fz r3 c8
      have r4 := Ty.fz r4 c8
      have c0 := c0.trans c8.none
      refine ⟨_, rfl, ?_⟩
      refine c_if (fun hb => ?_) (fun hb => ?_)
      ·
        replace hm := Mi.ifT hb hm
        cases hm
      replace hm := Mi.ifF hb hm
      refine w_fall ?_
      refine q_ifS ?_
      refine w_not ?_
      refine w_B ?_
      refine w_call ?_
      refine w_args (va_cons (val_var rfl) (va_cons (val_lenT r1 (val_var rfl)) va_nil)) ?_
      obtain ⟨q10, hq10, hm⟩ := Mi.bnd hm
      refine Or.inr (⟨v4, d4, (d1.length : Int), q10, rfl, r4, hq10, fun H12 c11  => ?_⟩)
      have rs := Ty.ex rs c11
      have r1 := Ty.fz r1 c11
      have r2 := Ty.fz r2 c11
      have r3 := Ty.fz r3 c11
      have r4 := Ty.fz r4 c11
      have c0 := c0.trans c11.none
      refine ⟨_, rfl, ?_⟩
      refine c_if (fun hb => ?_) (fun hb => ?_)
      ·
        replace hm := Mi.ifT hb hm
        cases hm
      replace hm := Mi.ifF hb hm
      refine w_fall ?_
      refine q_fld ?_
      refine c_val (val_lenT r1 (val_var rfl)) ?_
      refine c_val (val_var rfl) ?_
      refine m_fldP rs T_Chart.cls (T_Chart.na "size" (by decide +kernel)) (by decide +kernel) rfl (by decide) rfl fun H14 c13 rs => ?_
      have r1 := Ty.fz r1 c13
      have r2 := Ty.fz r2 c13
      have r3 := Ty.fz r3 c13
      have r4 := Ty.fz r4 c13
      have c0 := c0.join c13 (fun a h => .inl (h))
      have rs : (yPart C_Chart dx0 (["size"] : List Str)).rep K _ [x0] (.ref x0) [(.int (d1.length : Int))] := rs
      refine q_fld ?_
      refine w_cb ?_
      refine w_args (va_cons (val_var rfl) va_nil) ?_
      refine w_tupleT r1 fun v15 H16 c17 r18 => ?_
      have rs := Ty.ex rs c17
      have r1 := Ty.fz r1 c17
      have r2 := Ty.fz r2 c17
      have r3 := Ty.fz r3 c17
      have r4 := Ty.fz r4 c17
      have c0 := c0.trans c17.none
      refine c_val (val_var rfl) ?_
      refine m_fldP rs T_Chart.cls (T_Chart.na "depths" (by decide +kernel)) (by decide +kernel) rfl (by decide) rfl fun H20 c19 rs => ?_
      have r1 := Ty.fz r1 c19
      have r2 := Ty.fz r2 c19
      have r3 := Ty.fz r3 c19
      have r4 := Ty.fz r4 c19
      have r18 := Ty.fz r18 c19
      have c0 := c0.join c19 (fun a h => .inl (h))
      have rs : (yPart C_Chart dx0 (["size", "depths"] : List Str)).rep K _ [x0] (.ref x0) [(.int (d1.length : Int)), v15] := rs
      refine q_fld ?_
      refine w_call ?_
      refine w_args (va_cons (val_var rfl) va_nil) ?_
      obtain ⟨q21, hq21, hm⟩ := Mi.bnd hm
      refine Or.inr (⟨v2, d2, q21, rfl, r2, hq21, fun v24 H23 c22 r25  => ?_⟩)
      have rs := Ty.ex rs c22
      have r1 := Ty.fz r1 c22
      have r2 := Ty.fz r2 c22
      have r3 := Ty.fz r3 c22
      have r4 := Ty.fz r4 c22
      have r18 := Ty.fz r18 c22
      have c0 := c0.trans c22.none
      refine c_val (val_var rfl) ?_
      refine m_fldP rs T_Chart.cls (T_Chart.na "lanes" (by decide +kernel)) (by decide +kernel) rfl (by decide) rfl fun H27 c26 rs => ?_
      have r1 := Ty.fz r1 c26
      have r2 := Ty.fz r2 c26
      have r3 := Ty.fz r3 c26
      have r4 := Ty.fz r4 c26
      have r18 := Ty.fz r18 c26
      have r25 := Ty.fz r25 c26
      have c0 := c0.join c26 (fun a h => .inl (h))
      have rs : (yPart C_Chart dx0 (["size", "depths", "lanes"] : List Str)).rep K _ [x0] (.ref x0) [(.int (d1.length : Int)), v15, v24] := rs
      refine q_fld ?_
      refine w_cb ?_
      refine w_args (va_cons (val_var rfl) va_nil) ?_
      refine w_tupleT r3 fun v28 H29 c30 r31 => ?_
      have rs := Ty.ex rs c30
      have r1 := Ty.fz r1 c30
      have r2 := Ty.fz r2 c30
      have r3 := Ty.fz r3 c30
      have r4 := Ty.fz r4 c30
      have r18 := Ty.fz r18 c30
      have r25 := Ty.fz r25 c30
      have c0 := c0.trans c30.none
      refine c_val (val_var rfl) ?_
      refine m_fldP rs T_Chart.cls (T_Chart.na "tide" (by decide +kernel)) (by decide +kernel) rfl (by decide) rfl fun H33 c32 rs => ?_
      have r1 := Ty.fz r1 c32
      have r2 := Ty.fz r2 c32
      have r3 := Ty.fz r3 c32
      have r4 := Ty.fz r4 c32
      have r18 := Ty.fz r18 c32
      have r25 := Ty.fz r25 c32
      have r31 := Ty.fz r31 c32
      have c0 := c0.join c32 (fun a h => .inl (h))
      have rs : (yPart C_Chart dx0 (["size", "depths", "lanes", "tide"] : List Str)).rep K _ [x0] (.ref x0) [(.int (d1.length : Int)), v15, v24, v28] := rs
      refine q_fld ?_
      refine w_cb ?_
      refine w_cons ?_
      refine w_cb ?_
      refine w_args (va_cons (val_var rfl) va_nil) ?_
      refine w_sortedT r4 fun p34 H38 np37 c35 r36 => ?_
      have d39 : Dj [x0] [p34] := Ty.nin rs np37
      have n40 : ∀ a ∈ [p34], H0 a = none := one_fresh (c0.dom p34 np37)
      have rs := Ty.ex rs c35
      have r1 := Ty.fz r1 c35
      have r2 := Ty.fz r2 c35
      have r3 := Ty.fz r3 c35
      have r4 := Ty.fz r4 c35
      have r18 := Ty.fz r18 c35
      have r25 := Ty.fz r25 c35
      have r31 := Ty.fz r31 c35
      have c0 := c0.trans c35.none
      refine w_nil ?_
      refine w_tupleL r36 fun v41 H42 c43 r44 => ?_
      have rs := Ty.ex rs c43
      have r1 := Ty.fz r1 c43
      have r2 := Ty.fz r2 c43
      have r3 := Ty.fz r3 c43
      have r4 := Ty.fz r4 c43
      have r18 := Ty.fz r18 c43
      have r25 := Ty.fz r25 c43
      have r31 := Ty.fz r31 c43
      have r36 := Ty.ex r36 c43
      have c0 := c0.trans c43.none
      refine c_val (val_var rfl) ?_
      refine m_fldP rs T_Chart.cls (T_Chart.na "harbours" (by decide +kernel)) (by decide +kernel) rfl (by decide) rfl fun H46 c45 rs => ?_
      have r1 := Ty.fz r1 c45
      have r2 := Ty.fz r2 c45
      have r3 := Ty.fz r3 c45
      have r4 := Ty.fz r4 c45
      have r18 := Ty.fz r18 c45
      have r25 := Ty.fz r25 c45
      have r31 := Ty.fz r31 c45
      have r44 := Ty.fz r44 c45
      have c0 := c0.join c45 (fun a h => .inl (h))
      have rs : (yPart C_Chart dx0 (["size", "depths", "lanes", "tide", "harbours"] : List Str)).rep K _ [x0] (.ref x0) [(.int (d1.length : Int)), v15, v24, v28, v41] := rs
      refine q_fld ?_
      refine w_call ?_
      refine w_args (va_cons (fld_part (n := 0) (by decide +kernel) rfl rfl T_Chart.cls (T_Chart.na "size" (by decide +kernel)) rs (val_var rfl)) (va_cons (fld_part (n := 2) (by decide +kernel) rfl rfl T_Chart.cls (T_Chart.na "lanes" (by decide +kernel)) rs (val_var rfl)) va_nil)) ?_
      obtain ⟨q47, hq47, hm⟩ := Mi.bnd hm
      refine ⟨(d1.length : Int), v24, q21, q47, rfl, r25, hq47, fun v50 H49 c48 r51  => ?_⟩
      have rs := Ty.ex rs c48
      have r1 := Ty.fz r1 c48
      have r2 := Ty.fz r2 c48
      have r3 := Ty.fz r3 c48
      have r4 := Ty.fz r4 c48
      have r18 := Ty.fz r18 c48
      have r25 := Ty.fz r25 c48
      have r31 := Ty.fz r31 c48
      have r44 := Ty.fz r44 c48
      have c0 := c0.trans c48.none
      refine c_val (val_var rfl) ?_
      refine m_fldE (ts := ty_Chart) (d := ((d1.length : Int), d1, q21, d3, (Mi.sortI d4), q47)) rs T_Chart.cls (T_Chart.na "joined" (by decide +kernel)) (by decide +kernel) rfl (by decide) rfl ⟨_, _, _, _, rfl, rfl, yInt_i, ⟨_, _, _, _, rfl, rfl, r18, ⟨_, _, _, _, rfl, rfl, r25, ⟨_, _, _, _, rfl, rfl, r31, ⟨_, _, _, _, rfl, rfl, r44, ⟨_, rfl, r51⟩⟩⟩⟩⟩⟩ fun H53 c52 rs => ?_
      have r1 := Ty.fz r1 c52
      have r2 := Ty.fz r2 c52
      have r3 := Ty.fz r3 c52
      have r4 := Ty.fz r4 c52
      have r18 := Ty.fz r18 c52
      have r25 := Ty.fz r25 c52
      have r31 := Ty.fz r31 c52
      have r44 := Ty.fz r44 c52
      have r51 := Ty.fz r51 c52
      have c0 := c0.join c52 (fun a h => .inl (h))
      refine w_next ?_
      obtain rfl := Option.some.inj hm
      exact hQ _ c0 rs
abbrev s_Chart_neighbours : Stmt := inClass (topS 18) 3
abbrev N_Chart_neighbours : List Str := ["self", "place"]
theorem sc_Chart_neighbours : FnScope ["self", "place"] ["self", "place"] (defScope s_Chart_neighbours) := ⟨rfl, rfl, rfl, by decide +kernel, rfl, by decide +kernel, by decide +kernel⟩
def sp_Chart_neighbours (K : PySem.W.Frag) (C_Chart : Addr) : Sp := fun vs H Q _ => ∃ (v0 : V) (d0 : (Int × (List Int) × (List (Int × Int)) × (List Int) × (List Int) × (List (List Int)))) (d1 : Int) (r : (List Int)), vs = [v0, (.int d1)] ∧ (yObj C_Chart nm_Chart ty_Chart).rep K H [] v0 d0 ∧ Mi.m_Chart_neighbours d0 d1 = some r ∧ ∀ v H' F, Chg ([]) H H' → (yLst yInt).rep K H' F v r → (∀ a ∈ F, H a = none) → Q v H'
theorem ok_Chart_neighbours (B : Bi mg) (CN : Cs K mg) {C_Chart : Addr} (T_Chart : Tx K mg C_Chart "Chart" nm_Chart) (D : DfnM K C_Chart "neighbours" "Chart.neighbours" s_Chart_neighbours) : CalM P w K mg C_Chart "neighbours" ["self", "place"] 1 (sp_Chart_neighbours K C_Chart) := by
  obtain ⟨f, fd, F, g⟩ := D.ex
  refine ⟨f, fd, g, bindsF F (fun _ _ _ _ _ _ us hl => match us, hl with | [_, _], _ => rfl), fun base => F.ok sc_Chart_neighbours (fun vs H Q E h => ?_) (fun cdv A outer s H0 vs Q E hr h => ?_)⟩
  · obtain ⟨v0, d0, d1, r, rfl, r0, hm, hQ⟩ := h; rfl
  ·
    obtain ⟨v0, d0, d1, r, rfl, r0, hm, hQ⟩ := h
    refine ⟨_, pss_cons (ps_ret (pe_callTy (cl_list (K := K)) (by rfl) B.list (by decide +kernel) (pa_cons (pe_ix (ix_t (K := K)) (pe_fldk (K := K) (pv 0) (by rfl)) (pv 1) (fun _ _ => rfl)) pa_nil))) pss_nil, ?_⟩
    have c0 : Chg ([] : List Addr) H0 H0 := Chg.refl H0
    unfold Mi.m_Chart_neighbours at hm
    refine q_ret ?_
    refine w_cb ?_
    obtain ⟨u1, r2, kx3, ku4⟩ := fld_obj (n := 5) (f := "joined") (atS (atS (atS (atS (atS at1))))) (by decide +kernel) rfl T_Chart.cls (T_Chart.na "joined" (by decide +kernel)) r0
    obtain ⟨x5, hx5, hm⟩ := Mi.bnd hm
    obtain ⟨u6, r7, ku8⟩ := itm_T r2 hx5
    refine w_args (va_cons (ku8 (ku4 (val_var rfl)) (val_var rfl)) va_nil) ?_
    refine w_listT r7 fun p9 H13 np12 c10 r11 => ?_
    have n14 : ∀ a ∈ [p9], H0 a = none := one_fresh (c0.dom p9 np12)
    have r0 := Ty.fz r0 c10
    have r7 := Ty.fz r7 c10
    have c0 := c0.trans c10.none
    obtain rfl := Option.some.inj hm
    exact hQ _ _ _ c0 r11 n14 
abbrev s_Chart_is_harbour : Stmt := inClass (topS 18) 4
abbrev N_Chart_is_harbour : List Str := ["self", "place"]
theorem sc_Chart_is_harbour : FnScope ["self", "place"] ["self", "place"] (defScope s_Chart_is_harbour) := ⟨rfl, rfl, rfl, by decide +kernel, rfl, by decide +kernel, by decide +kernel⟩
def sp_Chart_is_harbour (K : PySem.W.Frag) (C_Chart : Addr) : Sp := fun vs H Q _ => ∃ (v0 : V) (d0 : (Int × (List Int) × (List (Int × Int)) × (List Int) × (List Int) × (List (List Int)))) (d1 : Int) (r : Bool), vs = [v0, (.int d1)] ∧ (yObj C_Chart nm_Chart ty_Chart).rep K H [] v0 d0 ∧ Mi.m_Chart_is_harbour d0 d1 = some r ∧ ∀ H', Chg ([]) H H' → Q (.bl r) H'
theorem ok_Chart_is_harbour (B : Bi mg) (CN : Cs K mg) {C_Chart : Addr} (T_Chart : Tx K mg C_Chart "Chart" nm_Chart) (D : DfnM K C_Chart "is_harbour" "Chart.is_harbour" s_Chart_is_harbour) : CalM P w K mg C_Chart "is_harbour" ["self", "place"] 1 (sp_Chart_is_harbour K C_Chart) := by
  obtain ⟨f, fd, F, g⟩ := D.ex
  refine ⟨f, fd, g, bindsF F (fun _ _ _ _ _ _ us hl => match us, hl with | [_, _], _ => rfl), fun base => F.ok sc_Chart_is_harbour (fun vs H Q E h => ?_) (fun cdv A outer s H0 vs Q E hr h => ?_)⟩
  · obtain ⟨v0, d0, d1, r, rfl, r0, hm, hQ⟩ := h; rfl
  ·
    obtain ⟨v0, d0, d1, r, rfl, r0, hm, hQ⟩ := h
    refine ⟨_, pss_cons (ps_ret (pe_cmpR (op_in_q (K := K)) (pv 1) (pe_fldk (K := K) (pv 0) (by rfl)) (by rfl))) pss_nil, ?_⟩
    have c0 : Chg ([] : List Addr) H0 H0 := Chg.refl H0
    unfold Mi.m_Chart_is_harbour at hm
    refine q_ret ?_
    obtain ⟨u1, r2, kx3, ku4⟩ := fld_obj (n := 4) (f := "harbours") (atS (atS (atS (atS at0)))) (by decide +kernel) rfl T_Chart.cls (T_Chart.na "harbours" (by decide +kernel)) r0
    refine c_val (val_inT r2 (val_var rfl) (ku4 (val_var rfl))) ?_
    obtain rfl := Option.some.inj hm
    exact hQ _ c0 
abbrev s_l_hand : Stmt := topS 20
abbrev N_l_hand : List Str := ["_law_script", "_law_k", "_law_cell", "_law_rest"]
theorem sc_l_hand : FnScope ["_law_script", "_law_k", "_law_cell", "_law_rest"] ["_law_script", "_law_k"] (defScope s_l_hand) := ⟨rfl, rfl, rfl, by decide +kernel, rfl, by decide +kernel, by decide +kernel⟩
def sp_l_hand (K : PySem.W.Frag) : Sp := fun vs H Q _ => ∃ (v0 : V) (d0 : (List Int)) (d1 : Int) (r : (List Int)), vs = [v0, (.int d1)] ∧ yScr.rep K H [] v0 d0 ∧ Mi.m_l_hand d0 d1 = some r ∧ ∀ v H' F, Chg ([]) H H' → (yLst yInt).rep K H' F v r → (∀ a ∈ F, H a = none) → Q v H'
theorem ok_l_hand (B : Bi mg) (CN : Cs K mg) (D : Dfn K mg "_law_hand" s_l_hand)  : Cal P w K mg "_law_hand" ["_law_script", "_law_k"] 1 (sp_l_hand K) := by
  obtain ⟨f, fd, F, g⟩ := D.ex
  refine ⟨f, fd, g, F.kp, bindsF F (fun _ _ _ _ _ _ us hl => match us, hl with | [_, _], _ => rfl), fun base => F.ok sc_l_hand (fun vs H Q E h => ?_) (fun cdv A outer s H0 vs Q E hr h => ?_)⟩
  · obtain ⟨v0, d0, d1, r, rfl, r0, hm, hQ⟩ := h; rfl
  ·
    obtain ⟨v0, d0, d1, r, rfl, r0, hm, hQ⟩ := h
    refine ⟨_, pss_cons (ps_set (i := 2) sc_l_hand.nd rfl (.inl rfl) pe_int)
      (pss_cons (ps_if (pt_cmpR op_lt (pv 1) (pe_callB (cl_len (K := K)) (by rfl) B.len PySem.boot_len (pa_cons (pv 0) pa_nil)) (nomark _)) (pss_cons (ps_set (i := 2) sc_l_hand.nd rfl (.inl rfl) (pe_ix (ix_l (K := K)) (pv 0) (pv 1) (fun _ _ => rfl)))
      (pss_nil)) (pss_nil))
      (pss_cons (ps_if (pt_cmpR op_lt (pv 2) pe_int (nomark _)) (pss_cons (ps_set (i := 2) sc_l_hand.nd rfl (.inl rfl) (pe_op op_sub pe_int (pe_op op_mul pe_int (pv 2))))
      (pss_nil)) (pss_nil))
      (pss_cons (ps_set (i := 3) sc_l_hand.nd rfl (.inl rfl) pe_int)
      (pss_cons (ps_if (pt_cmpR op_ge (pv 2) (pe_op op_pow pe_int pe_int) (nomark _)) (pss_cons (ps_set (i := 3) sc_l_hand.nd rfl (.inl rfl) (pv 2))
      (pss_nil)) (pss_nil))
      (pss_cons (ps_ret (pe_lst (pa_cons (pv 3) (pa_cons (pe_op op_mod (pe_callTy cl_int (by rfl) B.int (by decide +kernel) (pa_cons (pe_op op_add (pe_op op_add (pv 2) (pe_op op_mul pe_int (pv 1))) pe_int) pa_nil)) pe_int) (pa_cons pe_int pa_nil))))) pss_nil))))), ?_⟩
    have c0 : Chg ([] : List Addr) H0 H0 := Chg.refl H0
    unfold Mi.m_l_hand at hm
    obtain ⟨cell1, hcell1, hm⟩ := Mi.letE hm
    refine q_setE val_c (congrArg V.int hcell1) (σ' := [some v0, some (.int d1), some (.int cell1), none]) rfl ?_
    obtain ⟨s2, hs2, hm⟩ := Mi.bnd hm
    refine s_join (R := fun σ' H' => σ' = [some v0, some (.int d1), some (.int s2), none] ∧ Chg ([] : List Addr) H0 H' ∧ yScr.rep K H' [] v0 d0) (fun nx kx => ?_) (fun σ' H' hj => ?_)
    ·
      refine s_if (ans_t (val_lt (val_var rfl) (val_lenS r0 (val_var rfl)))) (fun hb => ?_) (fun hb => ?_)
      ·
        replace hs2 := Mi.ifT hb hs2
        obtain ⟨x3, hx3, hs2⟩ := Mi.bnd hs2
        obtain ⟨cell4, hcell4, hs2⟩ := Mi.letE hs2
        refine q_setE (itm_S r0 hx3 (val_var rfl) (val_var rfl)) (congrArg V.int hcell4) (σ' := [some v0, some (.int d1), some (.int cell4), none]) rfl ?_
        refine w_nextJ ?_
        obtain rfl := Option.some.inj hs2
        exact kx _ _ ⟨rfl, c0, r0⟩
      ·
        replace hs2 := Mi.ifF hb hs2
        refine w_nextJ ?_
        obtain rfl := Option.some.inj hs2
        exact kx _ _ ⟨rfl, c0, r0⟩
    obtain ⟨rfl, c0, r0⟩ := hj
    obtain ⟨s5, hs5, hm⟩ := Mi.bnd hm
    refine s_join (R := fun σ' H' => σ' = [some v0, some (.int d1), some (.int s5), none] ∧ Chg ([] : List Addr) H0 H' ∧ yScr.rep K H' [] v0 d0) (fun nx kx => ?_) (fun σ' H' hj => ?_)
    ·
      refine s_if (ans_t (val_lt (val_var rfl) val_c)) (fun hb => ?_) (fun hb => ?_)
      ·
        replace hs5 := Mi.ifT hb hs5
        obtain ⟨cell6, hcell6, hs5⟩ := Mi.letE hs5
        refine q_setE (val_sub val_c (val_mulL val_c (val_var rfl) ⟨by decide, by decide⟩)) (congrArg V.int hcell6) (σ' := [some v0, some (.int d1), some (.int cell6), none]) rfl ?_
        refine w_nextJ ?_
        obtain rfl := Option.some.inj hs5
        exact kx _ _ ⟨rfl, c0, r0⟩
      ·
        replace hs5 := Mi.ifF hb hs5
        refine w_nextJ ?_
        obtain rfl := Option.some.inj hs5
        exact kx _ _ ⟨rfl, c0, r0⟩
    obtain ⟨rfl, c0, r0⟩ := hj
    obtain ⟨rest7, hrest7, hm⟩ := Mi.letE hm
    refine q_setE val_c (congrArg V.int hrest7) (σ' := [some v0, some (.int d1), some (.int s5), some (.int rest7)]) rfl ?_
    obtain ⟨s8, hs8, hm⟩ := Mi.bnd hm
    refine s_join (R := fun σ' H' => σ' = [some v0, some (.int d1), some (.int s5), some (.int s8)] ∧ Chg ([] : List Addr) H0 H' ∧ yScr.rep K H' [] v0 d0) (fun nx kx => ?_) (fun σ' H' hj => ?_)
    ·
      refine s_if (ans_t (val_ge (val_var rfl) (val_pow (n := 18) val_c val_c rfl (by decide) (by decide)))) (fun hb => ?_) (fun hb => ?_)
      ·
        replace hs8 := Mi.ifT hb hs8
        obtain ⟨rest9, hrest9, hs8⟩ := Mi.letE hs8
        refine q_setE (val_var rfl) (congrArg V.int hrest9) (σ' := [some v0, some (.int d1), some (.int s5), some (.int rest9)]) rfl ?_
        refine w_nextJ ?_
        obtain rfl := Option.some.inj hs8
        exact kx _ _ ⟨rfl, c0, r0⟩
      ·
        replace hs8 := Mi.ifF hb hs8
        refine w_nextJ ?_
        obtain rfl := Option.some.inj hs8
        exact kx _ _ ⟨rfl, c0, r0⟩
    obtain ⟨rfl, c0, r0⟩ := hj
    refine q_ret ?_
    refine w_lst ?_
    refine w_args (va_cons (val_var rfl) (va_cons (val_modc (val_int (val_add (val_add (val_var rfl) (val_mulL val_c (val_var rfl) ⟨by decide, by decide⟩)) val_c)) val_c (by decide)) (va_cons val_c va_nil))) ?_
    refine e_lst (K := K) (τ := yInt) (by exact Nat.le_of_ble_eq_true rfl) (.cons yInt_i (.cons yInt_i (.cons yInt_i .nil))) fun p10 H14 np13 c11 r12 => ?_
    have n15 : ∀ a ∈ [p10], H0 a = none := one_fresh (c0.dom p10 np13)
    have r0 := Ty.fz r0 c11
    have c0 := c0.trans c11.none
    obtain rfl := Option.some.inj hm
    exact hQ _ _ _ c0 r12 n15 
abbrev s_l_pick : Stmt := topS 21
abbrev N_l_pick : List Str := ["_law_hand_here", "_law_size", "_law_digit", "_law_mixed"]
theorem sc_l_pick : FnScope ["_law_hand_here", "_law_size", "_law_digit", "_law_mixed"] ["_law_hand_here", "_law_size"] (defScope s_l_pick) := ⟨rfl, rfl, rfl, by decide +kernel, rfl, by decide +kernel, by decide +kernel⟩
def sp_l_pick (K : PySem.W.Frag) : Sp := fun vs H Q _ => ∃ (v0 : V) (F0 : List Addr) (d0 : (List Int)) (d1 : Int) (r : (Int × (List Int))), vs = [v0, (.int d1)] ∧ (yLst yInt).rep K H F0 v0 d0 ∧ Mi.m_l_pick d0 d1 = some r ∧ ∀ H', Chg (F0) H H' → (yLst yInt).rep K H' F0 v0 r.2 → Q (.int r.1) H'
theorem ok_l_pick (B : Bi mg) (CN : Cs K mg) (D : Dfn K mg "_law_pick" s_l_pick)  : Cal P w K mg "_law_pick" ["_law_hand_here", "_law_size"] 1 (sp_l_pick K) := by
  obtain ⟨f, fd, F, g⟩ := D.ex
  refine ⟨f, fd, g, F.kp, bindsF F (fun _ _ _ _ _ _ us hl => match us, hl with | [_, _], _ => rfl), fun base => F.ok sc_l_pick (fun vs H Q E h => ?_) (fun cdv A outer s H0 vs Q E hr h => ?_)⟩
  · obtain ⟨v0, F0, d0, d1, r, rfl, r0, hm, hQ⟩ := h; rfl
  ·
    obtain ⟨v0, F0, d0, d1, r, rfl, r0, hm, hQ⟩ := h
    refine ⟨_, pss_cons (ps_if (pt_cmpR op_lt (pv 1) pe_int (nomark _)) (pss_cons (ps_ret pe_int) pss_nil) (pss_nil))
      (pss_cons (ps_if (pt_cmpR op_gt (pe_ix (ix_l (K := K)) (pv 0) pe_int (fun _ _ => rfl)) pe_int (nomark _)) (pss_cons (ps_set (i := 2) sc_l_pick.nd rfl (.inl rfl) (pe_op op_mod (pe_callTy cl_int (by rfl) B.int (by decide +kernel) (pa_cons (pe_ix (ix_l (K := K)) (pv 0) pe_int (fun _ _ => rfl)) pa_nil)) (pv 1)))
      (pss_cons (ps_asg (pe_op op_fdivW (pe_ix (ix_l (K := K)) (pv 0) pe_int (fun _ _ => rfl)) (pv 1)) (pg_sub (pv 0) pe_int set_list))
      (pss_cons (ps_ret (pv 2)) pss_nil))) (pss_nil))
      (pss_cons (ps_asg (pe_op op_add (pe_ix (ix_l (K := K)) (pv 0) pe_int (fun _ _ => rfl)) pe_int) (pg_sub (pv 0) pe_int set_list))
      (pss_cons (ps_set (i := 3) sc_l_pick.nd rfl (.inl rfl) (pe_op op_mod (pe_callTy cl_int (by rfl) B.int (by decide +kernel) (pa_cons (pe_op op_add (pe_op op_add (pe_ix (ix_l (K := K)) (pv 0) pe_int (fun _ _ => rfl)) (pe_op op_mul pe_int (pe_ix (ix_l (K := K)) (pv 0) pe_int (fun _ _ => rfl)))) pe_int) pa_nil)) pe_int))
      (pss_cons (ps_set (i := 3) sc_l_pick.nd rfl (.inl rfl) (pe_op op_mod (pe_callTy cl_int (by rfl) B.int (by decide +kernel) (pa_cons (pe_op op_mul (pv 3) (pe_op op_add (pv 3) pe_int)) pa_nil)) pe_int))
      (pss_cons (ps_set (i := 3) sc_l_pick.nd rfl (.inl rfl) (pe_op op_mod (pe_callTy cl_int (by rfl) B.int (by decide +kernel) (pa_cons (pe_op op_add (pe_op op_mul (pv 3) (pe_op op_add (pv 3) pe_int)) (pe_op op_mul pe_int (pe_ix (ix_l (K := K)) (pv 0) pe_int (fun _ _ => rfl)))) pa_nil)) pe_int))
      (pss_cons (ps_ret (pe_op op_mod (pe_callTy cl_int (by rfl) B.int (by decide +kernel) (pa_cons (pe_op op_fdiv (pv 3) pe_int) pa_nil)) (pv 1))) pss_nil)))))), ?_⟩
    have c0 : Chg (F0) H0 H0 := Chg.refl H0
    unfold Mi.m_l_pick at hm
    refine q_if (ans_t (val_lt (val_var rfl) val_c)) (fun hb => ?_) (fun hb => ?_)
    ·
      replace hm := Mi.ifT hb hm
      refine q_ret ?_
      refine c_val val_c ?_
      obtain rfl := Option.some.inj hm
      exact hQ _ c0 r0
    replace hm := Mi.ifF hb hm
    refine w_fall ?_
    obtain ⟨x1, hx1, hm⟩ := Mi.bnd hm
    refine q_if (ans_t (val_gt (itm_LI r0 hx1 (val_var rfl) val_c) val_c)) (fun hb => ?_) (fun hb => ?_)
    ·
      replace hm := Mi.ifT hb hm
      obtain ⟨x2, hx2, hm⟩ := Mi.bnd hm
      obtain ⟨x3, hx3, hm⟩ := Mi.bnd hm
      obtain ⟨digit4, hdigit4, hm⟩ := Mi.letE hm
      refine q_setE (val_mod (val_int (itm_LI r0 hx2 (val_var rfl) val_c)) (val_var rfl) hx3) (congrArg V.int hdigit4) (σ' := [some v0, some (.int d1), some (.int digit4), none]) rfl ?_
      refine q_asg ?_
      obtain ⟨x5, hx5, hm⟩ := Mi.bnd hm
      obtain ⟨x6, hx6, hm⟩ := Mi.bnd hm
      refine c_val (val_fdiv (itm_LI r0 hx5 (val_var rfl) val_c) (val_var rfl) hx6) ?_
      refine w_gsub ?_
      refine c_val (val_var rfl) ?_
      refine c_val val_c ?_
      obtain ⟨x7, hx7, hm⟩ := Mi.bnd hm
      refine m_set r0 yInt_i hx7 fun H9 c8 r0 => ?_
      have c0 := c0.join c8 (fun a h => .inl (h))
      refine q_ret ?_
      refine c_val (val_var rfl) ?_
      obtain rfl := Option.some.inj hm
      exact hQ _ c0 r0
    replace hm := Mi.ifF hb hm
    refine w_fall ?_
    refine q_asg ?_
    obtain ⟨x10, hx10, hm⟩ := Mi.bnd hm
    refine c_val (val_add (itm_LI r0 hx10 (val_var rfl) val_c) val_c) ?_
    refine w_gsub ?_
    refine c_val (val_var rfl) ?_
    refine c_val val_c ?_
    obtain ⟨x11, hx11, hm⟩ := Mi.bnd hm
    refine m_set r0 yInt_i hx11 fun H13 c12 r0 => ?_
    have c0 := c0.join c12 (fun a h => .inl (h))
    obtain ⟨x14, hx14, hm⟩ := Mi.bnd hm
    obtain ⟨x15, hx15, hm⟩ := Mi.bnd hm
    obtain ⟨mixed16, hmixed16, hm⟩ := Mi.letE hm
    refine q_setE (val_modc (val_int (val_add (val_add (itm_LI r0 hx14 (val_var rfl) val_c) (val_mulL val_c (itm_LI r0 hx15 (val_var rfl) val_c) ⟨by decide, by decide⟩)) val_c)) val_c (by decide)) (congrArg V.int hmixed16) (σ' := [some v0, some (.int d1), none, some (.int mixed16)]) rfl ?_
    obtain ⟨x17, hx17, hm⟩ := Mi.bnd hm
    obtain ⟨mixed18, hmixed18, hm⟩ := Mi.letE hm
    refine q_setE (val_modc (val_int (val_mul (val_var rfl) (val_add (val_var rfl) val_c) hx17)) val_c (by decide)) (congrArg V.int hmixed18) (σ' := [some v0, some (.int d1), none, some (.int mixed18)]) rfl ?_
    obtain ⟨x19, hx19, hm⟩ := Mi.bnd hm
    obtain ⟨x20, hx20, hm⟩ := Mi.bnd hm
    obtain ⟨mixed21, hmixed21, hm⟩ := Mi.letE hm
    refine q_setE (val_modc (val_int (val_add (val_mul (val_var rfl) (val_add (val_var rfl) val_c) hx19) (val_mulL val_c (itm_LI r0 hx20 (val_var rfl) val_c) ⟨by decide, by decide⟩))) val_c (by decide)) (congrArg V.int hmixed21) (σ' := [some v0, some (.int d1), none, some (.int mixed21)]) rfl ?_
    refine q_ret ?_
    obtain ⟨x22, hx22, hm⟩ := Mi.bnd hm
    refine c_val (val_mod (val_int (val_divc (val_var rfl) val_c ⟨by decide, by decide⟩)) (val_var rfl) hx22) ?_
    obtain rfl := Option.some.inj hm
    exact hQ _ c0 r0
abbrev s_l_int : Stmt := topS 22
abbrev N_l_int : List Str := ["_law_x"]
theorem sc_l_int : FnScope ["_law_x"] ["_law_x"] (defScope s_l_int) := ⟨rfl, rfl, rfl, by decide +kernel, rfl, by decide +kernel, by decide +kernel⟩
def sp_l_int (K : PySem.W.Frag) : Sp := fun vs H Q _ => (∃ (d0 : Int) (r : Bool), vs = [(.int d0)] ∧ Mi.m_l_int_0 d0 = some r ∧ ∀ H', Chg ([]) H H' → Q (.bl r) H') ∨ (∃ (v0 : V) (d0 : (Option Int)) (r : Bool), vs = [v0] ∧ (yOpt yInt).rep K H [] v0 d0 ∧ Mi.m_l_int_1 d0 = some r ∧ ∀ H', Chg ([]) H H' → Q (.bl r) H')
theorem ok_l_int (B : Bi mg) (CN : Cs K mg) (D : Dfn K mg "_law_int" s_l_int)  : Cal P w K mg "_law_int" ["_law_x"] 1 (sp_l_int K) := by
  obtain ⟨f, fd, F, g⟩ := D.ex
  refine ⟨f, fd, g, F.kp, bindsF F (fun _ _ _ _ _ _ us hl => match us, hl with | [_], _ => rfl), fun base => F.ok sc_l_int (fun vs H Q E h => ?_) (fun cdv A outer s H0 vs Q E hr h => ?_)⟩
  · rcases h with ⟨d0, r, rfl, hm, hQ⟩ | ⟨v0, d0, r, rfl, r0, hm, hQ⟩
    all_goals rfl
  · rcases h with h | h
    ·
      obtain ⟨d0, r, rfl, hm, hQ⟩ := h
      refine ⟨_, pss_cons (ps_ret (pe_and (pe_callB (cl_isi (K := K)) (by rfl) B.isinstance (by decide +kernel) (pa_cons (pv 0) (pa_cons (pe_bltn (v := .ty "int") (by rfl) B.int (by decide +kernel) rfl) pa_nil))) (pe_one (pe_not (pe_callB (cl_isi (K := K)) (by rfl) B.isinstance (by decide +kernel) (pa_cons (pv 0) (pa_cons (pe_bltn (v := .ty "bool") (by rfl) B.bool (by decide +kernel) rfl) pa_nil))))))) pss_nil, ?_⟩
      have c0 : Chg ([] : List Addr) H0 H0 := Chg.refl H0
      unfold Mi.m_l_int_0 at hm
      refine q_ret ?_
      refine c_val (val_andV (val_isi (val_var rfl) ty_int (n := "int") (m := "int") (b := true) (by decide +kernel)) (fun _ => (val_notV (val_isi (val_var rfl) ty_int (n := "int") (m := "bool") (b := false) (by decide +kernel))))) ?_
      obtain rfl := Option.some.inj hm
      exact hQ _ c0 
    ·
      obtain ⟨v0, d0, r, rfl, r0, hm, hQ⟩ := h
      refine ⟨_, pss_cons (ps_ret (pe_and (pe_callB (cl_isi (K := K)) (by rfl) B.isinstance (by decide +kernel) (pa_cons (pv 0) (pa_cons (pe_bltn (v := .ty "int") (by rfl) B.int (by decide +kernel) rfl) pa_nil))) (pe_one (pe_not (pe_callB (cl_isi (K := K)) (by rfl) B.isinstance (by decide +kernel) (pa_cons (pv 0) (pa_cons (pe_bltn (v := .ty "bool") (by rfl) B.bool (by decide +kernel) rfl) pa_nil))))))) pss_nil, ?_⟩
      have c0 : Chg ([] : List Addr) H0 H0 := Chg.refl H0
      unfold Mi.m_l_int_1 at hm
      refine q_ret ?_
      refine c_val (val_andV (val_isiO (n := "int") (m := "int") (b := true) tyr_int r0 (val_var rfl) (by decide +kernel) (by decide +kernel)) (fun _ => (val_notV (val_isiO (n := "int") (m := "bool") (b := false) tyr_int r0 (val_var rfl) (by decide +kernel) (by decide +kernel))))) ?_
      obtain rfl := Option.some.inj hm
      exact hQ _ c0 
abbrev s_l_some : Stmt := topS 23
abbrev N_l_some : List Str := ["_law_hand_here", "_law_size", "_law_share", "_law_zone", "_law_place"]
theorem sc_l_some : FnScope ["_law_hand_here", "_law_size", "_law_share", "_law_zone", "_law_place"] ["_law_hand_here", "_law_size", "_law_share"] (defScope s_l_some) := ⟨rfl, rfl, rfl, by decide +kernel, rfl, by decide +kernel, by decide +kernel⟩
def sp_l_some (K : PySem.W.Frag) : Sp := fun vs H Q _ => ∃ (v0 : V) (F0 : List Addr) (d0 : (List Int)) (d1 : Int) (d2 : Int) (r : ((List Int) × (List Int))), vs = [v0, (.int d1), (.int d2)] ∧ (yLst yInt).rep K H F0 v0 d0 ∧ Mi.m_l_some d0 d1 d2 = some r ∧ ∀ v H' F, Chg (F0) H H' → (yLst yInt).rep K H' F v r.1 → (∀ a ∈ F, H a = none) → (yLst yInt).rep K H' F0 v0 r.2 → Q v H'
theorem ok_l_some (B : Bi mg) (CN : Cs K mg) (D : Dfn K mg "_law_some" s_l_some) (C_l_pick : Cal P w K mg "_law_pick" ["_law_hand_here", "_law_size"] 1 (sp_l_pick K)) : Cal P w K mg "_law_some" ["_law_hand_here", "_law_size", "_law_share"] 2 (sp_l_some K) := by
  obtain ⟨f, fd, F, g⟩ := D.ex
  refine ⟨f, fd, g, F.kp, bindsF F (fun _ _ _ _ _ _ us hl => match us, hl with | [_, _, _], _ => rfl), fun base => F.ok sc_l_some (fun vs H Q E h => ?_) (fun cdv A outer s H0 vs Q E hr h => ?_)⟩
  · obtain ⟨v0, F0, d0, d1, d2, r, rfl, r0, hm, hQ⟩ := h; rfl
  ·
    obtain ⟨v0, F0, d0, d1, d2, r, rfl, r0, hm, hQ⟩ := h
    refine ⟨_, pss_cons (ps_set (i := 3) sc_l_some.nd rfl (.inl rfl) (pe_lst pa_nil))
      (pss_cons (ps_for PassesOwn.never rfl (pi_range1 (by rfl) B.range (pa_cons (pv 1) pa_nil)) (pg_name (i := 4) sc_l_some.nd rfl (.inl rfl)) (pss_cons (ps_if (pt_cmpR op_eq (pe_cc C_l_pick hr (pa_cons (pv 0) (pa_cons (pv 2) pa_nil))) pe_int (nomark _)) (pss_cons (ps_expr (pe_bm PySem.F.plainAttrs_list PySem.F.slot_list_append PySem.F.type_list_append mt_append (pv 3) (pa_cons (pv 4) pa_nil)))
      (pss_nil)) (pss_nil))
      (pss_nil)))
      (pss_cons (ps_ret (pv 3)) pss_nil)), ?_⟩
    have c0 : Chg (F0) H0 H0 := Chg.refl H0
    unfold Mi.m_l_some at hm
    refine q_asg ?_
    refine w_lst ?_
    refine w_args va_nil ?_
    refine e_lst (K := K) (τ := yInt) (by exact Nat.le_of_ble_eq_true rfl) .nil fun p1 H5 np4 c2 r3 => ?_
    have d6 : Dj F0 [p1] := Ty.nin r0 np4
    have n7 : ∀ a ∈ [p1], H0 a = none := one_fresh (c0.dom p1 np4)
    have r0 := Ty.ex r0 c2
    have c0 := c0.trans c2.none
    refine g_name (σ' := [some v0, some (.int d1), some (.int d2), some (.ref p1), none]) rfl ?_
    refine q_for ?_
    refine w_iRng1 ?_
    refine w_args (va_cons (val_var rfl) va_nil) ?_
    obtain ⟨g8, hg8, hm⟩ := Mi.bnd hm
    obtain ⟨e9, he9, hm⟩ := Mi.bnd hm
    refine l_rng1 hg8 (fun i σ' H' => ∃ (s10 : ((List Int) × (List Int))) (y11 : Option V), σ' = [some v0, some (.int d1), some (.int d2), some (.ref p1), y11] ∧ Chg (F0) H0 H' ∧ (yLst yInt).rep K H' F0 v0 s10.1 ∧ (yLst yInt).rep K H' [p1] (.ref p1) s10.2 ∧ Mi.forN (Mi.m_l_some_b1 d2) s10 (List.drop i g8) = some e9) ⟨(d0, ([] : (List Int))), none, rfl, c0, r0, r3, he9⟩ (fun i14 x13 σ' H' hx12 hp => ?_) (fun σ' H' hp => ?_)
    ·
      obtain ⟨s10, y11, rfl, c0, r0, r3, hle9⟩ := hp
      obtain ⟨_, hbe9, hle9⟩ := Mi.forN_go hle9 hx12
      unfold Mi.m_l_some_b1 at hbe9
      refine g_name (σ' := [some v0, some (.int d1), some (.int d2), some (.ref p1), some (.int x13)]) rfl ?_
      obtain ⟨s15, hs15, hbe9⟩ := Mi.bnd hbe9
      refine s_join (R := fun σ' H' => σ' = [some v0, some (.int d1), some (.int d2), some (.ref p1), some (.int x13)] ∧ Chg (F0) H0 H' ∧ (yLst yInt).rep K H' F0 v0 s15.1 ∧ (yLst yInt).rep K H' [p1] (.ref p1) s15.2) (fun nx kx => ?_) (fun σ' H' hj => ?_)
      ·
        refine w_ifS ?_
        refine w_test ?_
        refine w_op ?_
        refine w_call ?_
        refine w_args (va_cons (val_var rfl) (va_cons (val_var rfl) va_nil)) ?_
        obtain ⟨q16, hq16, hs15⟩ := Mi.bnd hs15
        refine ⟨v0, F0, s10.1, d2, q16, rfl, r0, hq16, fun H18 c17 r0 => ?_⟩
        have r3 := Ty.chg r3 c17 d6.symm
        have c0 := c0.join c17 (fun a h => .inl (h))
        refine c_val val_c ?_
        refine w_eqI ?_
        refine ⟨_, rfl, ?_⟩
        refine c_if (fun hb => ?_) (fun hb => ?_)
        ·
          replace hs15 := Mi.ifT hb hs15
          refine q_drop (w_bm (c_val (val_var rfl) ⟨tyv_lst r3, ?_⟩))
          refine w_args (va_cons (val_var rfl) va_nil) ?_
          obtain ⟨x19, hx19, hs15⟩ := Mi.bnd hs15
          refine m_app r3 yInt_i hx19 fun H21 c20 r3 => ?_
          have r0 := Ty.chg r0 c20 d6
          have c0 := c0.join c20 (fun a h => .inr (n7 a h))
          refine w_nextJ ?_
          obtain rfl := Option.some.inj hs15
          exact kx _ _ ⟨rfl, c0, r0, r3⟩
        ·
          replace hs15 := Mi.ifF hb hs15
          refine w_nextJ ?_
          obtain rfl := Option.some.inj hs15
          exact kx _ _ ⟨rfl, c0, r0, r3⟩
      obtain ⟨rfl, c0, r0, r3⟩ := hj
      refine w_nextJ ?_
      obtain rfl := Option.some.inj hbe9
      exact ⟨_, (some (.int x13)), rfl, c0, r0, r3, hle9⟩
    obtain ⟨s10, y11, rfl, c0, r0, r3, hle9⟩ := hp
    obtain rfl := Mi.forN_end hle9
    refine q_ret ?_
    refine c_val (val_var rfl) ?_
    obtain rfl := Option.some.inj hm
    exact hQ _ _ _ c0 r3 n7 r0
abbrev s_l_sea : Stmt := topS 24
abbrev N_l_sea : List Str := ["_law_hand_here", "_law_most", "_law_size", "_law_span", "_law_swell", "_law_deeps", "_law_joins", "_law_b", "_law_a", "_law_flows_here", "_law_turn"]
theorem sc_l_sea : FnScope ["_law_hand_here", "_law_most", "_law_size", "_law_span", "_law_swell", "_law_deeps", "_law_joins", "_law_b", "_law_a", "_law_flows_here", "_law_turn"] ["_law_hand_here", "_law_most"] (defScope s_l_sea) := ⟨rfl, rfl, rfl, by decide +kernel, rfl, by decide +kernel, by decide +kernel⟩
def sp_l_sea (K : PySem.W.Frag) : Sp := fun vs H Q _ => ∃ (v0 : V) (F0 : List Addr) (d0 : (List Int)) (d1 : Int) (r : (((List Int) × (List (Int × Int)) × (List Int) × (List Int)) × (List Int))), vs = [v0, (.int d1)] ∧ (yLst yInt).rep K H F0 v0 d0 ∧ Mi.m_l_sea d0 d1 = some r ∧ ∀ v H' F, Chg (F0) H H' → (yTup (sCons (yLst yInt) (sCons (yLst (yTup (sCons yInt (sOne yInt)))) (sCons (yLst yInt) (sOne (yLst yInt)))))).rep K H' F v r.1 → (∀ a ∈ F, H a = none) → (yLst yInt).rep K H' F0 v0 r.2 → Q v H'
theorem ok_l_sea (B : Bi mg) (CN : Cs K mg) (D : Dfn K mg "_law_sea" s_l_sea) (C_l_pick : Cal P w K mg "_law_pick" ["_law_hand_here", "_law_size"] 1 (sp_l_pick K)) (C_l_some : Cal P w K mg "_law_some" ["_law_hand_here", "_law_size", "_law_share"] 2 (sp_l_some K)) : Cal P w K mg "_law_sea" ["_law_hand_here", "_law_most"] 3 (sp_l_sea K) := by
  obtain ⟨f, fd, F, g⟩ := D.ex
  refine ⟨f, fd, g, F.kp, bindsF F (fun _ _ _ _ _ _ us hl => match us, hl with | [_, _], _ => rfl), fun base => F.ok sc_l_sea (fun vs H Q E h => ?_) (fun cdv A outer s H0 vs Q E hr h => ?_)⟩
  · obtain ⟨v0, F0, d0, d1, r, rfl, r0, hm, hQ⟩ := h; rfl
  ·
    obtain ⟨v0, F0, d0, d1, r, rfl, r0, hm, hQ⟩ := h
    refine ⟨_, pss_cons (ps_set (i := 2) sc_l_sea.nd rfl (.inl rfl) (pe_op op_add pe_int (pe_cc C_l_pick hr (pa_cons (pv 0) (pa_cons (pv 1) pa_nil)))))
      (pss_cons (ps_set (i := 3) sc_l_sea.nd rfl (.inl rfl) (pe_ix (ix_l (K := K)) (pe_lst (pa_cons pe_int (pa_cons pe_int (pa_cons pe_int pa_nil)))) (pe_cc C_l_pick hr (pa_cons (pv 0) (pa_cons pe_int pa_nil))) (fun _ _ => rfl)))
      (pss_cons (ps_set (i := 4) sc_l_sea.nd rfl (.inl rfl) (pe_ix (ix_l (K := K)) (pe_lst (pa_cons pe_int (pa_cons pe_int (pa_cons pe_int pa_nil)))) (pe_cc C_l_pick hr (pa_cons (pv 0) (pa_cons pe_int pa_nil))) (fun _ _ => rfl)))
      (pss_cons (ps_set (i := 5) sc_l_sea.nd rfl (.inl rfl) (pe_lst pa_nil))
      (pss_cons (ps_set (i := 6) sc_l_sea.nd rfl (.inl rfl) (pe_lst pa_nil))
      (pss_cons (ps_for PassesOwn.never rfl (pi_range1 (by rfl) B.range (pa_cons (pv 2) pa_nil)) (pg_name (i := 7) sc_l_sea.nd rfl (.inl rfl)) (pss_cons (ps_expr (pe_bm PySem.F.plainAttrs_list PySem.F.slot_list_append PySem.F.type_list_append mt_append (pv 5) (pa_cons (pe_cc C_l_pick hr (pa_cons (pv 0) (pa_cons (pv 3) pa_nil))) pa_nil)))
      (pss_cons (ps_for PassesOwn.never rfl (pi_range1 (by rfl) B.range (pa_cons (pv 7) pa_nil)) (pg_name (i := 8) sc_l_sea.nd rfl (.inl rfl)) (pss_cons (ps_if (pt_cmpR op_gt (pe_cc C_l_pick hr (pa_cons (pv 0) (pa_cons pe_int pa_nil))) pe_int (nomark _)) (pss_cons (ps_expr (pe_bm PySem.F.plainAttrs_list PySem.F.slot_list_append PySem.F.type_list_append mt_append (pv 6) (pa_cons (pe_tup (pa_cons (pv 8) (pa_cons (pv 7) pa_nil))) pa_nil)))
      (pss_nil)) (pss_nil))
      (pss_nil)))
      (pss_nil))))
      (pss_cons (ps_set (i := 9) sc_l_sea.nd rfl (.inl rfl) (pe_lst (pa_cons pe_int pa_nil)))
      (pss_cons (ps_for PassesOwn.never rfl (pi_range1 (by rfl) B.range (pa_cons (pe_cc C_l_pick hr (pa_cons (pv 0) (pa_cons pe_int pa_nil))) pa_nil)) (pg_name (i := 10) sc_l_sea.nd rfl (.inl rfl)) (pss_cons (ps_expr (pe_bm PySem.F.plainAttrs_list PySem.F.slot_list_append PySem.F.type_list_append mt_append (pv 9) (pa_cons (pe_cc C_l_pick hr (pa_cons (pv 0) (pa_cons (pv 4) pa_nil))) pa_nil)))
      (pss_nil)))
      (pss_cons (ps_ret (pe_tup (pa_cons (pv 5) (pa_cons (pv 6) (pa_cons (pv 9) (pa_cons (pe_cc C_l_some hr (pa_cons (pv 0) (pa_cons (pv 2) (pa_cons pe_int pa_nil)))) pa_nil)))))) pss_nil)))))))), ?_⟩
    have c0 : Chg (F0) H0 H0 := Chg.refl H0
    unfold Mi.m_l_sea at hm
    refine q_asg ?_
    refine w_op ?_
    refine c_val val_c ?_
    refine w_call ?_
    refine w_args (va_cons (val_var rfl) (va_cons (val_var rfl) va_nil)) ?_
    obtain ⟨q1, hq1, hm⟩ := Mi.bnd hm
    refine ⟨v0, F0, d0, d1, q1, rfl, r0, hq1, fun H3 c2 r0 => ?_⟩
    have c0 := c0.join c2 (fun a h => .inl (h))
    refine w_I0 ?_
    obtain ⟨size4, hsize4, hm⟩ := Mi.letE hm
    refine g_nameE (congrArg V.int hsize4) (σ' := [some v0, some (.int d1), some (.int size4), none, none, none, none, none, none, none, none]) rfl ?_
    refine q_asg ?_
    refine w_op ?_
    refine w_lst ?_
    refine w_args (va_cons val_c (va_cons val_c (va_cons val_c va_nil))) ?_
    refine e_lst (K := K) (τ := yInt) (by exact Nat.le_of_ble_eq_true rfl) (.cons yInt_i (.cons yInt_i (.cons yInt_i .nil))) fun p5 H9 np8 c6 r7 => ?_
    have d10 : Dj F0 [p5] := Ty.nin r0 np8
    have n11 : ∀ a ∈ [p5], H0 a = none := one_fresh (c0.dom p5 np8)
    have r0 := Ty.ex r0 c6
    have c0 := c0.trans c6.none
    refine w_call ?_
    refine w_args (va_cons (val_var rfl) (va_cons val_c va_nil)) ?_
    obtain ⟨q12, hq12, hm⟩ := Mi.bnd hm
    refine ⟨v0, F0, q1.2, (3 : Int), q12, rfl, r0, hq12, fun H14 c13 r0 => ?_⟩
    have r7 := Ty.chg r7 c13 d10.symm
    have c0 := c0.join c13 (fun a h => .inl (h))
    obtain ⟨x15, hx15, hm⟩ := Mi.bnd hm
    refine w_ixL r7 hx15 fun u16 r17 => ?_
    obtain ⟨_, rfl⟩ := r17
    refine g_name (σ' := [some v0, some (.int d1), some (.int size4), some (.int x15), none, none, none, none, none, none, none]) rfl ?_
    refine q_asg ?_
    refine w_op ?_
    refine w_lst ?_
    refine w_args (va_cons val_c (va_cons val_c (va_cons val_c va_nil))) ?_
    refine e_lst (K := K) (τ := yInt) (by exact Nat.le_of_ble_eq_true rfl) (.cons yInt_i (.cons yInt_i (.cons yInt_i .nil))) fun p18 H22 np21 c19 r20 => ?_
    have d23 : Dj F0 [p18] := Ty.nin r0 np21
    have n24 : ∀ a ∈ [p18], H0 a = none := one_fresh (c0.dom p18 np21)
    have r0 := Ty.ex r0 c19
    have c0 := c0.trans c19.none
    refine w_call ?_
    refine w_args (va_cons (val_var rfl) (va_cons val_c va_nil)) ?_
    obtain ⟨q25, hq25, hm⟩ := Mi.bnd hm
    refine ⟨v0, F0, q12.2, (3 : Int), q25, rfl, r0, hq25, fun H27 c26 r0 => ?_⟩
    have r20 := Ty.chg r20 c26 d23.symm
    have c0 := c0.join c26 (fun a h => .inl (h))
    obtain ⟨x28, hx28, hm⟩ := Mi.bnd hm
    refine w_ixL r20 hx28 fun u29 r30 => ?_
    obtain ⟨_, rfl⟩ := r30
    refine g_name (σ' := [some v0, some (.int d1), some (.int size4), some (.int x15), some (.int x28), none, none, none, none, none, none]) rfl ?_
    refine q_asg ?_
    refine w_lst ?_
    refine w_args va_nil ?_
    refine e_lst (K := K) (τ := yInt) (by exact Nat.le_of_ble_eq_true rfl) .nil fun p31 H35 np34 c32 r33 => ?_
    have d36 : Dj F0 [p31] := Ty.nin r0 np34
    have n37 : ∀ a ∈ [p31], H0 a = none := one_fresh (c0.dom p31 np34)
    have r0 := Ty.ex r0 c32
    have c0 := c0.trans c32.none
    refine g_name (σ' := [some v0, some (.int d1), some (.int size4), some (.int x15), some (.int x28), some (.ref p31), none, none, none, none, none]) rfl ?_
    refine q_asg ?_
    refine w_lst ?_
    refine w_args va_nil ?_
    refine e_lst (K := K) (τ := (yTup (sCons yInt (sOne yInt)))) (by exact Nat.le_of_ble_eq_true rfl) .nil fun p38 H42 np41 c39 r40 => ?_
    have d43 : Dj F0 [p38] := Ty.nin r0 np41
    have d44 : Dj [p31] [p38] := Ty.nin r33 np41
    have n45 : ∀ a ∈ [p38], H0 a = none := one_fresh (c0.dom p38 np41)
    have r0 := Ty.ex r0 c39
    have r33 := Ty.ex r33 c39
    have c0 := c0.trans c39.none
    refine g_name (σ' := [some v0, some (.int d1), some (.int size4), some (.int x15), some (.int x28), some (.ref p31), some (.ref p38), none, none, none, none]) rfl ?_
    refine q_for ?_
    refine w_iRng1 ?_
    refine w_args (va_cons (val_var rfl) va_nil) ?_
    obtain ⟨g46, hg46, hm⟩ := Mi.bnd hm
    obtain ⟨e47, he47, hm⟩ := Mi.bnd hm
    refine l_rng1 hg46 (fun i σ' H' => ∃ (s48 : ((List Int) × (List Int) × (List (Int × Int)))) (y49 : Option V) (y50 : Option V), σ' = [some v0, some (.int d1), some (.int size4), some (.int x15), some (.int x28), some (.ref p31), some (.ref p38), y49, y50, none, none] ∧ Chg (F0) H0 H' ∧ (yLst yInt).rep K H' F0 v0 s48.1 ∧ (yLst yInt).rep K H' [p31] (.ref p31) s48.2.1 ∧ (yLst (yTup (sCons yInt (sOne yInt)))).rep K H' [p38] (.ref p38) s48.2.2 ∧ Mi.forN (Mi.m_l_sea_b1 x15) s48 (List.drop i g46) = some e47) ⟨(q25.2, ([] : (List Int)), ([] : (List (Int × Int)))), none, none, rfl, c0, r0, r33, r40, he47⟩ (fun i53 x52 σ' H' hx51 hp => ?_) (fun σ' H' hp => ?_)
    ·
      obtain ⟨s48, y49, y50, rfl, c0, r0, r33, r40, hle47⟩ := hp
      obtain ⟨_, hbe47, hle47⟩ := Mi.forN_go hle47 hx51
      unfold Mi.m_l_sea_b1 at hbe47
      refine g_name (σ' := [some v0, some (.int d1), some (.int size4), some (.int x15), some (.int x28), some (.ref p31), some (.ref p38), some (.int x52), y50, none, none]) rfl ?_
      refine q_drop (w_bm (c_val (val_var rfl) ⟨tyv_lst r33, ?_⟩))
      refine w_cons ?_
      refine w_call ?_
      refine w_args (va_cons (val_var rfl) (va_cons (val_var rfl) va_nil)) ?_
      obtain ⟨q54, hq54, hbe47⟩ := Mi.bnd hbe47
      refine ⟨v0, F0, s48.1, x15, q54, rfl, r0, hq54, fun H56 c55 r0 => ?_⟩
      have r33 := Ty.chg r33 c55 d36.symm
      have r40 := Ty.chg r40 c55 d43.symm
      have c0 := c0.join c55 (fun a h => .inl (h))
      refine w_nil ?_
      obtain ⟨x57, hx57, hbe47⟩ := Mi.bnd hbe47
      refine m_app r33 yInt_i hx57 fun H59 c58 r33 => ?_
      have r0 := Ty.chg r0 c58 d36
      have r40 := Ty.chg r40 c58 d44.symm
      have c0 := c0.join c58 (fun a h => .inr (n37 a h))
      refine q_for ?_
      refine w_iRng1 ?_
      refine w_args (va_cons (val_var rfl) va_nil) ?_
      obtain ⟨g60, hg60, hbe47⟩ := Mi.bnd hbe47
      obtain ⟨e61, he61, hbe47⟩ := Mi.bnd hbe47
      refine l_rng1 hg60 (fun i σ' H' => ∃ (s62 : ((List Int) × (List (Int × Int)))) (y63 : Option V), σ' = [some v0, some (.int d1), some (.int size4), some (.int x15), some (.int x28), some (.ref p31), some (.ref p38), some (.int x52), y63, none, none] ∧ Chg (F0) H0 H' ∧ (yLst yInt).rep K H' F0 v0 s62.1 ∧ (yLst yInt).rep K H' [p31] (.ref p31) x57 ∧ (yLst (yTup (sCons yInt (sOne yInt)))).rep K H' [p38] (.ref p38) s62.2 ∧ Mi.forN (Mi.m_l_sea_b2 x52) s62 (List.drop i g60) = some e61) ⟨(q54.2, s48.2.2), y50, rfl, c0, r0, r33, r40, he61⟩ (fun i66 x65 σ' H' hx64 hp => ?_) (fun σ' H' hp => ?_)
      ·
        obtain ⟨s62, y63, rfl, c0, r0, r33, r40, hle61⟩ := hp
        obtain ⟨_, hbe61, hle61⟩ := Mi.forN_go hle61 hx64
        unfold Mi.m_l_sea_b2 at hbe61
        refine g_name (σ' := [some v0, some (.int d1), some (.int size4), some (.int x15), some (.int x28), some (.ref p31), some (.ref p38), some (.int x52), some (.int x65), none, none]) rfl ?_
        obtain ⟨s67, hs67, hbe61⟩ := Mi.bnd hbe61
        refine s_join (R := fun σ' H' => σ' = [some v0, some (.int d1), some (.int size4), some (.int x15), some (.int x28), some (.ref p31), some (.ref p38), some (.int x52), some (.int x65), none, none] ∧ Chg (F0) H0 H' ∧ (yLst yInt).rep K H' F0 v0 s67.1 ∧ (yLst yInt).rep K H' [p31] (.ref p31) x57 ∧ (yLst (yTup (sCons yInt (sOne yInt)))).rep K H' [p38] (.ref p38) s67.2) (fun nx kx => ?_) (fun σ' H' hj => ?_)
        ·
          refine w_ifS ?_
          refine w_test ?_
          refine w_op ?_
          refine w_call ?_
          refine w_args (va_cons (val_var rfl) (va_cons val_c va_nil)) ?_
          obtain ⟨q68, hq68, hs67⟩ := Mi.bnd hs67
          refine ⟨v0, F0, s62.1, (4 : Int), q68, rfl, r0, hq68, fun H70 c69 r0 => ?_⟩
          have r33 := Ty.chg r33 c69 d36.symm
          have r40 := Ty.chg r40 c69 d43.symm
          have c0 := c0.join c69 (fun a h => .inl (h))
          refine c_val val_c ?_
          refine w_I0 ?_
          refine ⟨_, rfl, ?_⟩
          refine c_if (fun hb => ?_) (fun hb => ?_)
          ·
            replace hs67 := Mi.ifT hb hs67
            refine q_drop (w_bm (c_val (val_var rfl) ⟨tyv_lst r40, ?_⟩))
            refine w_cons ?_
            refine w_tup ?_
            refine w_args (va_cons (val_var rfl) (va_cons (val_var rfl) va_nil)) ?_
            refine e_tup (K := K) (ty := (sCons yInt (sOne yInt))) (F := []) (d := (x65, x52)) (by exact Nat.le_of_ble_eq_true rfl) ⟨_, _, _, _, rfl, rfl, yInt_i, ⟨_, rfl, yInt_i⟩⟩ fun p71 H75 np74 c72 r73 => ?_
            have r0 := Ty.ex r0 c72
            have r33 := Ty.ex r33 c72
            have r40 := Ty.ex r40 c72
            have c0 := c0.trans c72.none
            refine w_nil ?_
            obtain ⟨x76, hx76, hs67⟩ := Mi.bnd hs67
            refine m_app r40 r73 hx76 fun H78 c77 r40 => ?_
            have r0 := Ty.chg r0 c77 d43
            have r33 := Ty.chg r33 c77 d44
            have c0 := c0.join c77 (fun a h => .inr (n45 a h))
            refine w_nextJ ?_
            obtain rfl := Option.some.inj hs67
            exact kx _ _ ⟨rfl, c0, r0, r33, r40⟩
          ·
            replace hs67 := Mi.ifF hb hs67
            refine w_nextJ ?_
            obtain rfl := Option.some.inj hs67
            exact kx _ _ ⟨rfl, c0, r0, r33, r40⟩
        obtain ⟨rfl, c0, r0, r33, r40⟩ := hj
        refine w_nextJ ?_
        obtain rfl := Option.some.inj hbe61
        exact ⟨_, (some (.int x65)), rfl, c0, r0, r33, r40, hle61⟩
      obtain ⟨s62, y63, rfl, c0, r0, r33, r40, hle61⟩ := hp
      obtain rfl := Mi.forN_end hle61
      refine w_nextJ ?_
      obtain rfl := Option.some.inj hbe47
      exact ⟨_, (some (.int x52)), y63, rfl, c0, r0, r33, r40, hle47⟩
    obtain ⟨s48, y49, y50, rfl, c0, r0, r33, r40, hle47⟩ := hp
    obtain rfl := Mi.forN_end hle47
    refine q_asg ?_
    refine w_lst ?_
    refine w_args (va_cons val_c va_nil) ?_
    refine e_lst (K := K) (τ := yInt) (by exact Nat.le_of_ble_eq_true rfl) (.cons yInt_i .nil) fun p79 H83 np82 c80 r81 => ?_
    have d84 : Dj F0 [p79] := Ty.nin r0 np82
    have d85 : Dj [p31] [p79] := Ty.nin r33 np82
    have d86 : Dj [p38] [p79] := Ty.nin r40 np82
    have n87 : ∀ a ∈ [p79], H0 a = none := one_fresh (c0.dom p79 np82)
    have r0 := Ty.ex r0 c80
    have r33 := Ty.ex r33 c80
    have r40 := Ty.ex r40 c80
    have c0 := c0.trans c80.none
    refine g_name (σ' := [some v0, some (.int d1), some (.int size4), some (.int x15), some (.int x28), some (.ref p31), some (.ref p38), y49, y50, some (.ref p79), none]) rfl ?_
    refine q_for ?_
    refine w_iRng1 ?_
    refine w_cons ?_
    refine w_call ?_
    refine w_args (va_cons (val_var rfl) (va_cons val_c va_nil)) ?_
    obtain ⟨q88, hq88, hm⟩ := Mi.bnd hm
    refine ⟨v0, F0, s48.1, (3 : Int), q88, rfl, r0, hq88, fun H90 c89 r0 => ?_⟩
    have r33 := Ty.chg r33 c89 d36.symm
    have r40 := Ty.chg r40 c89 d43.symm
    have r81 := Ty.chg r81 c89 d84.symm
    have c0 := c0.join c89 (fun a h => .inl (h))
    refine w_nil ?_
    obtain ⟨g91, hg91, hm⟩ := Mi.bnd hm
    obtain ⟨e92, he92, hm⟩ := Mi.bnd hm
    refine l_rng1 hg91 (fun i σ' H' => ∃ (s93 : ((List Int) × (List Int))) (y94 : Option V), σ' = [some v0, some (.int d1), some (.int size4), some (.int x15), some (.int x28), some (.ref p31), some (.ref p38), y49, y50, some (.ref p79), y94] ∧ Chg (F0) H0 H' ∧ (yLst yInt).rep K H' F0 v0 s93.1 ∧ (yLst yInt).rep K H' [p31] (.ref p31) s48.2.1 ∧ (yLst (yTup (sCons yInt (sOne yInt)))).rep K H' [p38] (.ref p38) s48.2.2 ∧ (yLst yInt).rep K H' [p79] (.ref p79) s93.2 ∧ Mi.forN (Mi.m_l_sea_b3 x28) s93 (List.drop i g91) = some e92) ⟨(q88.2, [(0 : Int)]), none, rfl, c0, r0, r33, r40, r81, he92⟩ (fun i97 x96 σ' H' hx95 hp => ?_) (fun σ' H' hp => ?_)
    ·
      obtain ⟨s93, y94, rfl, c0, r0, r33, r40, r81, hle92⟩ := hp
      obtain ⟨_, hbe92, hle92⟩ := Mi.forN_go hle92 hx95
      unfold Mi.m_l_sea_b3 at hbe92
      refine g_name (σ' := [some v0, some (.int d1), some (.int size4), some (.int x15), some (.int x28), some (.ref p31), some (.ref p38), y49, y50, some (.ref p79), some (.int x96)]) rfl ?_
      refine q_drop (w_bm (c_val (val_var rfl) ⟨tyv_lst r81, ?_⟩))
      refine w_cons ?_
      refine w_call ?_
      refine w_args (va_cons (val_var rfl) (va_cons (val_var rfl) va_nil)) ?_
      obtain ⟨q98, hq98, hbe92⟩ := Mi.bnd hbe92
      refine ⟨v0, F0, s93.1, x28, q98, rfl, r0, hq98, fun H100 c99 r0 => ?_⟩
      have r33 := Ty.chg r33 c99 d36.symm
      have r40 := Ty.chg r40 c99 d43.symm
      have r81 := Ty.chg r81 c99 d84.symm
      have c0 := c0.join c99 (fun a h => .inl (h))
      refine w_nil ?_
      obtain ⟨x101, hx101, hbe92⟩ := Mi.bnd hbe92
      refine m_app r81 yInt_i hx101 fun H103 c102 r81 => ?_
      have r0 := Ty.chg r0 c102 d84
      have r33 := Ty.chg r33 c102 d85
      have r40 := Ty.chg r40 c102 d86
      have c0 := c0.join c102 (fun a h => .inr (n87 a h))
      refine w_nextJ ?_
      obtain rfl := Option.some.inj hbe92
      exact ⟨_, (some (.int x96)), rfl, c0, r0, r33, r40, r81, hle92⟩
    obtain ⟨s93, y94, rfl, c0, r0, r33, r40, r81, hle92⟩ := hp
    obtain rfl := Mi.forN_end hle92
    refine q_ret ?_
    refine w_tup ?_
    refine w_cons ?_
    refine c_val (val_var rfl) ?_
    refine w_cons ?_
    refine c_val (val_var rfl) ?_
    refine w_cons ?_
    refine c_val (val_var rfl) ?_
    refine w_cons ?_
    refine w_call ?_
    refine w_args (va_cons (val_var rfl) (va_cons (val_var rfl) (va_cons val_c va_nil))) ?_
    obtain ⟨q104, hq104, hm⟩ := Mi.bnd hm
    have r0_old := r0
    refine ⟨v0, F0, s93.1, size4, (4 : Int), q104, rfl, r0, hq104, fun v107 H106 F109 c105 r108 fr110 r0 => ?_⟩
    have d111 : Dj F0 F109 := Ty.fresh r0_old fr110
    have d112 : Dj [p31] F109 := Ty.fresh r33 fr110
    have d113 : Dj [p38] F109 := Ty.fresh r40 fr110
    have d114 : Dj [p79] F109 := Ty.fresh r81 fr110
    have n115 : ∀ a ∈ F109, H0 a = none := fun a h => c0.dom a (fr110 a h)
    have r33 := Ty.chg r33 c105 d36.symm
    have r40 := Ty.chg r40 c105 d43.symm
    have r81 := Ty.chg r81 c105 d84.symm
    have c0 := c0.join c105 (fun a h => .inl (h))
    refine w_nil ?_
    refine e_tup (K := K) (ty := (sCons (yLst yInt) (sCons (yLst (yTup (sCons yInt (sOne yInt)))) (sCons (yLst yInt) (sOne (yLst yInt)))))) (F := ([p31] ++ ([p38] ++ ([p79] ++ F109)))) (d := (s48.2.1, s48.2.2, s93.2, q104.1)) (by exact Nat.le_of_ble_eq_true rfl) ⟨_, _, _, _, rfl, rfl, r33, ⟨_, _, _, _, rfl, rfl, r40, ⟨_, _, _, _, rfl, rfl, r81, ⟨_, rfl, r108⟩⟩⟩⟩ fun p116 H120 np119 c117 r118 => ?_
    have r0 := Ty.ex r0 c117
    have r33 := Ty.ex r33 c117
    have r40 := Ty.ex r40 c117
    have r81 := Ty.ex r81 c117
    have r108 := Ty.ex r108 c117
    have c0 := c0.trans c117.none
    have d121 : Dj ([p31] ++ ([p38] ++ ([p79] ++ F109))) F0 := (Dj.app (d36.symm) ((Dj.app (d43.symm) ((Dj.app (d84.symm) (d111.symm))))))
    obtain rfl := Option.some.inj hm
    exact hQ _ _ _ c0 r118 (app_fresh n37 (app_fresh n45 (app_fresh n87 n115))) r0
abbrev s_l_wide : Stmt := topS 25
abbrev N_l_wide : List Str := ["_law_hand_here", "_law_most"]
theorem sc_l_wide : FnScope ["_law_hand_here", "_law_most"] ["_law_hand_here"] (defScope s_l_wide) := ⟨rfl, rfl, rfl, by decide +kernel, rfl, by decide +kernel, by decide +kernel⟩
def sp_l_wide (K : PySem.W.Frag) : Sp := fun vs H Q _ => ∃ (v0 : V) (F0 : List Addr) (d0 : (List Int)) (r : (((List Int) × (List (Int × Int)) × (List Int) × (List Int)) × (List Int))), vs = [v0] ∧ (yLst yInt).rep K H F0 v0 d0 ∧ Mi.m_l_wide d0 = some r ∧ ∀ v H' F, Chg (F0) H H' → (yTup (sCons (yLst yInt) (sCons (yLst (yTup (sCons yInt (sOne yInt)))) (sCons (yLst yInt) (sOne (yLst yInt)))))).rep K H' F v r.1 → (∀ a ∈ F, H a = none) → (yLst yInt).rep K H' F0 v0 r.2 → Q v H'
theorem ok_l_wide (B : Bi mg) (CN : Cs K mg) (D : Dfn K mg "_law_wide" s_l_wide) (C_l_pick : Cal P w K mg "_law_pick" ["_law_hand_here", "_law_size"] 1 (sp_l_pick K)) (C_l_sea : Cal P w K mg "_law_sea" ["_law_hand_here", "_law_most"] 3 (sp_l_sea K)) : Cal P w K mg "_law_wide" ["_law_hand_here"] 4 (sp_l_wide K) := by
  obtain ⟨f, fd, F, g⟩ := D.ex
  refine ⟨f, fd, g, F.kp, bindsF F (fun _ _ _ _ _ _ us hl => match us, hl with | [_], _ => rfl), fun base => F.ok sc_l_wide (fun vs H Q E h => ?_) (fun cdv A outer s H0 vs Q E hr h => ?_)⟩
  · obtain ⟨v0, F0, d0, r, rfl, r0, hm, hQ⟩ := h; rfl
  ·
    obtain ⟨v0, F0, d0, r, rfl, r0, hm, hQ⟩ := h
    refine ⟨_, pss_cons (ps_set (i := 1) sc_l_wide.nd rfl (.inl rfl) (pe_ix (ix_l (K := K)) (pe_lst (pa_cons pe_int (pa_cons pe_int (pa_cons pe_int (pa_cons pe_int (pa_cons pe_int (pa_cons pe_int (pa_cons pe_int (pa_cons pe_int pa_nil))))))))) (pe_cc C_l_pick hr (pa_cons (pv 0) (pa_cons pe_int pa_nil))) (fun _ _ => rfl)))
      (pss_cons (ps_ret (pe_cc C_l_sea hr (pa_cons (pv 0) (pa_cons (pv 1) pa_nil)))) pss_nil), ?_⟩
    have c0 : Chg (F0) H0 H0 := Chg.refl H0
    unfold Mi.m_l_wide at hm
    refine q_asg ?_
    refine w_op ?_
    refine w_lst ?_
    refine w_args (va_cons val_c (va_cons val_c (va_cons val_c (va_cons val_c (va_cons val_c (va_cons val_c (va_cons val_c (va_cons val_c va_nil)))))))) ?_
    refine e_lst (K := K) (τ := yInt) (by exact Nat.le_of_ble_eq_true rfl) (.cons yInt_i (.cons yInt_i (.cons yInt_i (.cons yInt_i (.cons yInt_i (.cons yInt_i (.cons yInt_i (.cons yInt_i .nil)))))))) fun p1 H5 np4 c2 r3 => ?_
    have d6 : Dj F0 [p1] := Ty.nin r0 np4
    have n7 : ∀ a ∈ [p1], H0 a = none := one_fresh (c0.dom p1 np4)
    have r0 := Ty.ex r0 c2
    have c0 := c0.trans c2.none
    refine w_call ?_
    refine w_args (va_cons (val_var rfl) (va_cons val_c va_nil)) ?_
    obtain ⟨q8, hq8, hm⟩ := Mi.bnd hm
    refine ⟨v0, F0, d0, (8 : Int), q8, rfl, r0, hq8, fun H10 c9 r0 => ?_⟩
    have r3 := Ty.chg r3 c9 d6.symm
    have c0 := c0.join c9 (fun a h => .inl (h))
    obtain ⟨x11, hx11, hm⟩ := Mi.bnd hm
    refine w_ixL r3 hx11 fun u12 r13 => ?_
    obtain ⟨_, rfl⟩ := r13
    refine g_name (σ' := [some v0, some (.int x11)]) rfl ?_
    refine q_ret ?_
    refine w_call ?_
    refine w_args (va_cons (val_var rfl) (va_cons (val_var rfl) va_nil)) ?_
    obtain ⟨q14, hq14, hm⟩ := Mi.bnd hm
    have r0_old := r0
    refine ⟨v0, F0, q8.2, x11, q14, rfl, r0, hq14, fun v17 H16 F19 c15 r18 fr20 r0 => ?_⟩
    have d21 : Dj F0 F19 := Ty.fresh r0_old fr20
    have n22 : ∀ a ∈ F19, H0 a = none := fun a h => c0.dom a (fr20 a h)
    have c0 := c0.join c15 (fun a h => .inl (h))
    obtain rfl := Option.some.inj hm
    exact hQ _ _ _ c0 r18 n22 r0
abbrev s_l_flows : Stmt := topS 26
abbrev N_l_flows : List Str := ["_law_hand_here", "_law_sea_here", "_law_turn"]
theorem sc_l_flows : FnScope ["_law_hand_here", "_law_sea_here", "_law_turn"] ["_law_hand_here", "_law_sea_here"] (defScope s_l_flows) := ⟨rfl, rfl, rfl, by decide +kernel, rfl, by decide +kernel, by decide +kernel⟩
def sp_l_flows (K : PySem.W.Frag) : Sp := fun vs H Q _ => ∃ (v0 : V) (F0 : List Addr) (d0 : (List Int)) (v1 : V) (F1 : List Addr) (d1 : ((List Int) × (List (Int × Int)) × (List Int) × (List Int))) (r : ((List Int) × (List Int))), vs = [v0, v1] ∧ (yLst yInt).rep K H F0 v0 d0 ∧ (yTup (sCons (yLst yInt) (sCons (yLst (yTup (sCons yInt (sOne yInt)))) (sCons (yLst yInt) (sOne (yLst yInt)))))).rep K H F1 v1 d1 ∧ Dj F0 F1 ∧ Mi.m_l_flows d0 d1 = some r ∧ ∀ v H' F, Chg (F0) H H' → (yLst yInt).rep K H' F v r.1 → (∀ a ∈ F, H a = none) → (yLst yInt).rep K H' F0 v0 r.2 → Q v H'
theorem ok_l_flows (B : Bi mg) (CN : Cs K mg) (D : Dfn K mg "_law_flows" s_l_flows) (C_l_pick : Cal P w K mg "_law_pick" ["_law_hand_here", "_law_size"] 1 (sp_l_pick K)) : Cal P w K mg "_law_flows" ["_law_hand_here", "_law_sea_here"] 2 (sp_l_flows K) := by
  obtain ⟨f, fd, F, g⟩ := D.ex
  refine ⟨f, fd, g, F.kp, bindsF F (fun _ _ _ _ _ _ us hl => match us, hl with | [_, _], _ => rfl), fun base => F.ok sc_l_flows (fun vs H Q E h => ?_) (fun cdv A outer s H0 vs Q E hr h => ?_)⟩
  · obtain ⟨v0, F0, d0, v1, F1, d1, r, rfl, r0, r1, dd0_1, hm, hQ⟩ := h; rfl
  ·
    obtain ⟨v0, F0, d0, v1, F1, d1, r, rfl, r0, r1, dd0_1, hm, hQ⟩ := h
    refine ⟨_, pss_cons (ps_if (pt_cmpR op_eq (pe_cc C_l_pick hr (pa_cons (pv 0) (pa_cons pe_int pa_nil))) pe_int (nomark _)) (pss_cons (ps_ret (pe_lc (own := [("_law_turn", 2)]) rfl sc_l_flows.nd (pi_range1 (by rfl) B.range (pa_cons (pe_op op_add pe_int (pe_cc C_l_pick hr (pa_cons (pv 0) (pa_cons pe_int pa_nil)))) pa_nil)) (blkOk_by (own := [("_law_turn", 2)]) (N := N_l_flows) (sc := defScope s_l_flows) (by decide +kernel)) (fun _ _ _ _ _ => (pg_name (i := 2) sc_l_flows.nd rfl (.inl rfl))) (fun _ _ _ _ _ => pts_nil) (fun _ _ _ _ _ => (pe_cc C_l_pick hr (pa_cons (pv 0) (pa_cons pe_int pa_nil)))))) pss_nil) (pss_nil))
      (pss_cons (ps_ret (pe_op op_cat (pe_slice (sl_l (K := K)) (pe_ix (ix_t (K := K)) (pv 1) pe_int (fun _ _ => rfl)) (po_some pe_int) po_none) (pe_slice (sl_l (K := K)) (pe_ix (ix_t (K := K)) (pv 1) pe_int (fun _ _ => rfl)) po_none (po_some pe_int)))) pss_nil), ?_⟩
    have c0 : Chg (F0) H0 H0 := Chg.refl H0
    unfold Mi.m_l_flows at hm
    refine q_ifS ?_
    refine w_test ?_
    refine w_op ?_
    refine w_call ?_
    refine w_args (va_cons (val_var rfl) (va_cons val_c va_nil)) ?_
    obtain ⟨q1, hq1, hm⟩ := Mi.bnd hm
    refine ⟨v0, F0, d0, (8 : Int), q1, rfl, r0, hq1, fun H3 c2 r0 => ?_⟩
    have r1 := Ty.chg r1 c2 dd0_1.symm
    have c0 := c0.join c2 (fun a h => .inl (h))
    refine c_val val_c ?_
    refine w_eqI ?_
    refine ⟨_, rfl, ?_⟩
    refine c_if (fun hb => ?_) (fun hb => ?_)
    ·
      replace hm := Mi.ifT hb hm
      refine q_ret ?_
      refine w_lc ?_
      refine w_iRng1 ?_
      refine w_cons ?_
      refine w_op ?_
      refine c_val val_c ?_
      refine w_call ?_
      refine w_args (va_cons (val_var rfl) (va_cons val_c va_nil)) ?_
      obtain ⟨q4, hq4, hm⟩ := Mi.bnd hm
      refine ⟨v0, F0, q1.2, (12 : Int), q4, rfl, r0, hq4, fun H6 c5 r0 => ?_⟩
      have r1 := Ty.chg r1 c5 dd0_1.symm
      have c0 := c0.join c5 (fun a h => .inl (h))
      refine w_I0 ?_
      refine w_nil ?_
      obtain ⟨g7, hg7, hm⟩ := Mi.bnd hm
      obtain ⟨e8, he8, hm⟩ := Mi.bnd hm
      refine kc_rng1 (K := K) (τ := yInt) hg7 (fun D10 i H' => ∃ (s9 : ((List Int) × (List Int))), Chg (F0) H0 H' ∧ (yLst yInt).rep K H' F0 v0 s9.2 ∧ (yTup (sCons (yLst yInt) (sCons (yLst (yTup (sCons yInt (sOne yInt)))) (sCons (yLst yInt) (sOne (yLst yInt)))))).rep K H' F1 v1 d1 ∧ (yLst yInt).rep K H' [D10] (.ref D10) s9.1 ∧ Dj F0 [D10] ∧ Dj F1 [D10] ∧ (∀ a ∈ [D10], H0 a = none) ∧ Mi.forN (Mi.m_l_flows_b1) s9 (List.drop i g7) = some e8) (fun D10 H17 np16 c15 r11 => ⟨(([] : (List Int)), q4.2), c0.trans c15.none, (Ty.ex r0 c15), (Ty.ex r1 c15), r11, Ty.nin r0 np16, Ty.nin r1 np16, one_fresh (c0.dom D10 np16), he8⟩) (fun D10 i20 x19 H21 hx18 hp => ?_) (fun D10 H' np16 hp => ?_)
      ·
        obtain ⟨s9, c0, r0, r1, r11, d12, d13, n14, hle8⟩ := hp
        obtain ⟨_, hbe8, hle8⟩ := Mi.forN_go hle8 hx18
        unfold Mi.m_l_flows_b1 at hbe8
        refine g_name (σ' := [some v0, some v1, some (.int x19)]) rfl ?_
        refine ⟨rfl, ?_⟩
        refine w_yes ?_
        refine iteT ?_
        refine w_call ?_
        refine w_args (va_cons (val_var rfl) (va_cons val_c va_nil)) ?_
        obtain ⟨q26, hq26, hbe8⟩ := Mi.bnd hbe8
        refine ⟨v0, F0, s9.2, (21 : Int), q26, rfl, r0, hq26, fun H28 c27 r0 => ?_⟩
        have r1 := Ty.chg r1 c27 dd0_1.symm
        have r11 := Ty.chg r11 c27 d12.symm
        have c0 := c0.join c27 (fun a h => .inl (h))
        obtain ⟨x29, hx29, hbe8⟩ := Mi.bnd hbe8
        refine e_app r11 yInt_i hx29 fun H31 c30 r11 => ?_
        have r0 := Ty.chg r0 c30 d12
        have r1 := Ty.chg r1 c30 d13
        have c0 := c0.join c30 (fun a h => .inr (n14 a h))
        obtain rfl := Option.some.inj hbe8
        exact ⟨(x29, q26.2), c0, r0, r1, r11, d12, d13, n14, hle8⟩
      obtain ⟨s9, c0, r0, r1, r11, d12, d13, n14, hle8⟩ := hp
      obtain rfl := Mi.forN_end hle8
      obtain rfl := Option.some.inj hm
      exact hQ _ _ _ c0 r11 n14 r0
    replace hm := Mi.ifF hb hm
    refine w_fall ?_
    refine q_ret ?_
    refine w_op ?_
    refine w_sl ?_
    obtain ⟨u32, F33, r34, su35, kx36, ku37⟩ := itm_tup (n := 2) (atS (atS at0)) r1
    have d38 : Dj F33 F0 := Dj.sub (dd0_1.symm) su35
    refine c_val (ku37 (val_var rfl) val_c) ?_
    refine w_pos ?_
    refine c_val val_c ?_
    refine ⟨_, rfl, ?_⟩
    refine w_pon ?_
    refine w_cutL r34 fun p39 H43 np42 c40 r41 => ?_
    have d44 : Dj F0 [p39] := Ty.nin r0 np42
    have d45 : Dj F1 [p39] := Ty.nin r1 np42
    have d46 : Dj F33 [p39] := Ty.nin r34 np42
    have n47 : ∀ a ∈ [p39], H0 a = none := one_fresh (c0.dom p39 np42)
    have r0 := Ty.ex r0 c40
    have r1 := Ty.ex r1 c40
    have r34 := Ty.ex r34 c40
    have c0 := c0.trans c40.none
    refine w_sl ?_
    obtain ⟨u48, F49, r50, su51, kx52, ku53⟩ := itm_tup (n := 2) (atS (atS at0)) r1
    have d54 : Dj F49 F0 := Dj.sub (dd0_1.symm) su51
    have d55 : Dj F49 [p39] := Dj.sub (d45) su51
    refine c_val (ku53 (val_var rfl) val_c) ?_
    refine w_pon ?_
    refine w_pos ?_
    refine c_val val_c ?_
    refine ⟨_, rfl, ?_⟩
    refine w_cutL r50 fun p56 H60 np59 c57 r58 => ?_
    have d61 : Dj F0 [p56] := Ty.nin r0 np59
    have d62 : Dj F1 [p56] := Ty.nin r1 np59
    have d63 : Dj [p39] [p56] := Ty.nin r41 np59
    have d64 : Dj F49 [p56] := Ty.nin r50 np59
    have n65 : ∀ a ∈ [p56], H0 a = none := one_fresh (c0.dom p56 np59)
    have r0 := Ty.ex r0 c57
    have r1 := Ty.ex r1 c57
    have r41 := Ty.ex r41 c57
    have r50 := Ty.ex r50 c57
    have c0 := c0.trans c57.none
    obtain ⟨x66, hx66, hm⟩ := Mi.bnd hm
    refine w_cat r41 r58 hx66 fun p67 H71 np70 c68 r69 => ?_
    have d72 : Dj F0 [p67] := Ty.nin r0 np70
    have d73 : Dj F1 [p67] := Ty.nin r1 np70
    have d74 : Dj [p39] [p67] := Ty.nin r41 np70
    have d75 : Dj [p56] [p67] := Ty.nin r58 np70
    have n76 : ∀ a ∈ [p67], H0 a = none := one_fresh (c0.dom p67 np70)
    have r0 := Ty.ex r0 c68
    have r1 := Ty.ex r1 c68
    have r41 := Ty.ex r41 c68
    have r58 := Ty.ex r58 c68
    have c0 := c0.trans c68.none
    obtain rfl := Option.some.inj hm
    exact hQ _ _ _ c0 r69 n76 r0
abbrev s_l_thinned : Stmt := topS 27
abbrev N_l_thinned : List Str := ["_law_hand_here", "_law_joins", "_law_most", "_law_share", "_law_pair"]
theorem sc_l_thinned : FnScope ["_law_hand_here", "_law_joins", "_law_most", "_law_share", "_law_pair"] ["_law_hand_here", "_law_joins", "_law_most"] (defScope s_l_thinned) := ⟨rfl, rfl, rfl, by decide +kernel, rfl, by decide +kernel, by decide +kernel⟩
def sp_l_thinned (K : PySem.W.Frag) : Sp := fun vs H Q _ => ∃ (v0 : V) (F0 : List Addr) (d0 : (List Int)) (v1 : V) (F1 : List Addr) (d1 : (List (Int × Int))) (d2 : Int) (r : ((List (Int × Int)) × (List Int))), vs = [v0, v1, (.int d2)] ∧ (yLst yInt).rep K H F0 v0 d0 ∧ (yLst (yTup (sCons yInt (sOne yInt)))).rep K H F1 v1 d1 ∧ Dj F0 F1 ∧ Mi.m_l_thinned d0 d1 d2 = some r ∧ ∀ v H' F, Chg (F0) H H' → (yLst (yTup (sCons yInt (sOne yInt)))).rep K H' F v r.1 → (∀ a ∈ F, H a = none) → (yLst yInt).rep K H' F0 v0 r.2 → Q v H'
theorem ok_l_thinned (B : Bi mg) (CN : Cs K mg) (D : Dfn K mg "_law_thinned" s_l_thinned) (C_l_pick : Cal P w K mg "_law_pick" ["_law_hand_here", "_law_size"] 1 (sp_l_pick K)) : Cal P w K mg "_law_thinned" ["_law_hand_here", "_law_joins", "_law_most"] 2 (sp_l_thinned K) := by
  obtain ⟨f, fd, F, g⟩ := D.ex
  refine ⟨f, fd, g, F.kp, bindsF F (fun _ _ _ _ _ _ us hl => match us, hl with | [_, _, _], _ => rfl), fun base => F.ok sc_l_thinned (fun vs H Q E h => ?_) (fun cdv A outer s H0 vs Q E hr h => ?_)⟩
  · obtain ⟨v0, F0, d0, v1, F1, d1, d2, r, rfl, r0, r1, dd0_1, hm, hQ⟩ := h; rfl
  ·
    obtain ⟨v0, F0, d0, v1, F1, d1, d2, r, rfl, r0, r1, dd0_1, hm, hQ⟩ := h
    refine ⟨_, pss_cons (ps_set (i := 3) sc_l_thinned.nd rfl (.inr rfl) (pe_op op_add pe_int (pe_cc C_l_pick hr (pa_cons (pv 0) (pa_cons (pv 2) pa_nil)))))
      (pss_cons (ps_ret (pe_lc (own := [("_law_pair", 4)]) rfl sc_l_thinned.nd (pi_list (pv 1)) (blkOk_by (own := [("_law_pair", 4)]) (N := N_l_thinned) (sc := defScope s_l_thinned) (by decide +kernel)) (fun _ _ _ _ _ => (pg_name (i := 4) sc_l_thinned.nd rfl (.inl rfl))) (fun _ _ _ _ _ => (pts_one (pt_cmpR op_eq (pe_cc C_l_pick hr (pa_cons (pv 0) (pa_cons (pv 3) pa_nil))) pe_int (nomark _)))) (fun _ _ _ _ _ => (pv 4)))) pss_nil), ?_⟩
    have c0 : Chg (F0) H0 H0 := Chg.refl H0
    unfold Mi.m_l_thinned at hm
    refine q_asg ?_
    refine w_op ?_
    refine c_val val_c ?_
    refine w_call ?_
    refine w_args (va_cons (val_var rfl) (va_cons (val_var rfl) va_nil)) ?_
    obtain ⟨q1, hq1, hm⟩ := Mi.bnd hm
    refine ⟨v0, F0, d0, d2, q1, rfl, r0, hq1, fun H3 c2 r0 => ?_⟩
    have r1 := Ty.chg r1 c2 dd0_1.symm
    have c0 := c0.join c2 (fun a h => .inl (h))
    refine w_I0 ?_
    obtain ⟨share4, hshare4, hm⟩ := Mi.letE hm
    refine g_nameE (congrArg V.int hshare4) (σ' := [some v0, some v1, some (.int d2), some (.int share4), none]) rfl ?_
    refine q_ret ?_
    refine w_lc ?_
    refine w_iList ?_
    refine c_val (val_var rfl) ?_
    obtain ⟨e5, he5, hm⟩ := Mi.bnd hm
    refine kc_lst (K := K) (τ := (yTup (sCons yInt (sOne yInt)))) r1 (fun D7 i H' => ∃ (s6 : ((List (Int × Int)) × (List Int))), Chg (F0) H0 H' ∧ (yLst yInt).rep K H' F0 v0 s6.2 ∧ (yLst (yTup (sCons yInt (sOne yInt)))).rep K H' F1 v1 d1 ∧ (yLst (yTup (sCons yInt (sOne yInt)))).rep K H' [D7] (.ref D7) s6.1 ∧ Dj F0 [D7] ∧ Dj F1 [D7] ∧ (∀ a ∈ [D7], H0 a = none) ∧ Mi.forN (Mi.m_l_thinned_b1 share4) s6 (List.drop i d1) = some e5) (fun D7 H14 np13 c12 r8 => ⟨(([] : (List (Int × Int))), q1.2), c0.trans c12.none, (Ty.ex r0 c12), (Ty.ex r1 c12), r8, Ty.nin r0 np13, Ty.nin r1 np13, one_fresh (c0.dom D7 np13), he5⟩) (fun D7 i H' hp => by obtain ⟨s6, c0, r0, r1, r8, d9, d10, n11, _⟩ := hp; exact r1) (fun D7 i17 x16 u19 H18 hx15 r20 hp => ?_) (fun D7 H' np13 hp => ?_)
    ·
      obtain ⟨s6, c0, r0, r1, r8, d9, d10, n11, hle5⟩ := hp
      obtain ⟨_, hbe5, hle5⟩ := Mi.forN_go hle5 hx15
      unfold Mi.m_l_thinned_b1 at hbe5
      refine g_name (σ' := [some v0, some v1, some (.int d2), some (.int share4), some u19]) rfl ?_
      refine ⟨rfl, ?_⟩
      refine w_test ?_
      refine w_op ?_
      refine w_call ?_
      refine w_args (va_cons (val_var rfl) (va_cons (val_var rfl) va_nil)) ?_
      obtain ⟨q23, hq23, hbe5⟩ := Mi.bnd hbe5
      refine ⟨v0, F0, s6.2, share4, q23, rfl, r0, hq23, fun H25 c24 r0 => ?_⟩
      have r1 := Ty.chg r1 c24 dd0_1.symm
      have r20 := Ty.fz r20 c24
      have r8 := Ty.chg r8 c24 d9.symm
      have c0 := c0.join c24 (fun a h => .inl (h))
      refine c_val val_c ?_
      refine w_eqI ?_
      refine ⟨_, rfl, ?_⟩
      refine c_if (fun hb => ?_) (fun hb => ?_)
      ·
        replace hbe5 := Mi.ifT hb hbe5
        refine c_val (val_var rfl) ?_
        obtain ⟨x26, hx26, hbe5⟩ := Mi.bnd hbe5
        refine e_app r8 r20 hx26 fun H28 c27 r8 => ?_
        have r0 := Ty.chg r0 c27 d9
        have r1 := Ty.chg r1 c27 d10
        have r20 := Ty.fz r20 c27
        have c0 := c0.join c27 (fun a h => .inr (n11 a h))
        obtain rfl := Option.some.inj hbe5
        exact ⟨(x26, q23.2), c0, r0, r1, r8, d9, d10, n11, hle5⟩
      ·
        replace hbe5 := Mi.ifF hb hbe5
        obtain rfl := Option.some.inj hbe5
        exact ⟨(s6.1, q23.2), c0, r0, r1, r8, d9, d10, n11, hle5⟩
    obtain ⟨s6, c0, r0, r1, r8, d9, d10, n11, hle5⟩ := hp
    obtain rfl := Mi.forN_end hle5
    obtain rfl := Option.some.inj hm
    exact hQ _ _ _ c0 r8 n11 r0
abbrev s_l_flipped : Stmt := topS 28
abbrev N_l_flipped : List Str := ["_law_hand_here", "_law_joins", "_law_rows", "_law_pair"]
theorem sc_l_flipped : FnScope ["_law_hand_here", "_law_joins", "_law_rows", "_law_pair"] ["_law_hand_here", "_law_joins"] (defScope s_l_flipped) := ⟨rfl, rfl, rfl, by decide +kernel, rfl, by decide +kernel, by decide +kernel⟩
def sp_l_flipped (K : PySem.W.Frag) : Sp := fun vs H Q _ => ∃ (v0 : V) (F0 : List Addr) (d0 : (List Int)) (v1 : V) (F1 : List Addr) (d1 : (List (Int × Int))) (r : ((List (Int × Int)) × (List Int))), vs = [v0, v1] ∧ (yLst yInt).rep K H F0 v0 d0 ∧ (yLst (yTup (sCons yInt (sOne yInt)))).rep K H F1 v1 d1 ∧ Dj F0 F1 ∧ Mi.m_l_flipped d0 d1 = some r ∧ ∀ v H' F, Chg (F0) H H' → (yLst (yTup (sCons yInt (sOne yInt)))).rep K H' F v r.1 → (∀ a ∈ F, H a = none) → (yLst yInt).rep K H' F0 v0 r.2 → Q v H'
theorem ok_l_flipped (B : Bi mg) (CN : Cs K mg) (D : Dfn K mg "_law_flipped" s_l_flipped) (C_l_pick : Cal P w K mg "_law_pick" ["_law_hand_here", "_law_size"] 1 (sp_l_pick K)) : Cal P w K mg "_law_flipped" ["_law_hand_here", "_law_joins"] 2 (sp_l_flipped K) := by
  obtain ⟨f, fd, F, g⟩ := D.ex
  refine ⟨f, fd, g, F.kp, bindsF F (fun _ _ _ _ _ _ us hl => match us, hl with | [_, _], _ => rfl), fun base => F.ok sc_l_flipped (fun vs H Q E h => ?_) (fun cdv A outer s H0 vs Q E hr h => ?_)⟩
  · obtain ⟨v0, F0, d0, v1, F1, d1, r, rfl, r0, r1, dd0_1, hm, hQ⟩ := h; rfl
  ·
    obtain ⟨v0, F0, d0, v1, F1, d1, r, rfl, r0, r1, dd0_1, hm, hQ⟩ := h
    refine ⟨_, pss_cons (ps_set (i := 2) sc_l_flipped.nd rfl (.inl rfl) (pe_lst pa_nil))
      (pss_cons (ps_for PassesOwn.never rfl (pi_list (pv 1)) (pg_name (i := 3) sc_l_flipped.nd rfl (.inl rfl)) (pss_cons (ps_if (pt_cmpR op_eq (pe_cc C_l_pick hr (pa_cons (pv 0) (pa_cons pe_int pa_nil))) pe_int (nomark _)) (pss_cons (ps_expr (pe_bm PySem.F.plainAttrs_list PySem.F.slot_list_append PySem.F.type_list_append mt_append (pv 2) (pa_cons (pv 3) pa_nil)))
      (pss_nil)) (pss_cons (ps_expr (pe_bm PySem.F.plainAttrs_list PySem.F.slot_list_append PySem.F.type_list_append mt_append (pv 2) (pa_cons (pe_tup (pa_cons (pe_ix (ix_t (K := K)) (pv 3) pe_int (fun _ _ => rfl)) (pa_cons (pe_ix (ix_t (K := K)) (pv 3) pe_int (fun _ _ => rfl)) pa_nil))) pa_nil)))
      (pss_nil)))
      (pss_nil)))
      (pss_cons (ps_ret (pv 2)) pss_nil)), ?_⟩
    have c0 : Chg (F0) H0 H0 := Chg.refl H0
    unfold Mi.m_l_flipped at hm
    refine q_asg ?_
    refine w_lst ?_
    refine w_args va_nil ?_
    refine e_lst (K := K) (τ := (yTup (sCons yInt (sOne yInt)))) (by exact Nat.le_of_ble_eq_true rfl) .nil fun p1 H5 np4 c2 r3 => ?_
    have d6 : Dj F0 [p1] := Ty.nin r0 np4
    have d7 : Dj F1 [p1] := Ty.nin r1 np4
    have n8 : ∀ a ∈ [p1], H0 a = none := one_fresh (c0.dom p1 np4)
    have r0 := Ty.ex r0 c2
    have r1 := Ty.ex r1 c2
    have c0 := c0.trans c2.none
    refine g_name (σ' := [some v0, some v1, some (.ref p1), none]) rfl ?_
    refine q_for ?_
    refine w_iList ?_
    refine c_val (val_var rfl) ?_
    obtain ⟨e9, he9, hm⟩ := Mi.bnd hm
    refine l_lst r1 (fun i σ' H' => ∃ (s10 : ((List Int) × (List (Int × Int)))) (y11 : Option V), σ' = [some v0, some v1, some (.ref p1), y11] ∧ Chg (F0) H0 H' ∧ (yLst yInt).rep K H' F0 v0 s10.1 ∧ (yLst (yTup (sCons yInt (sOne yInt)))).rep K H' F1 v1 d1 ∧ (yLst (yTup (sCons yInt (sOne yInt)))).rep K H' [p1] (.ref p1) s10.2 ∧ Mi.forN (Mi.m_l_flipped_b1) s10 (List.drop i d1) = some e9) ⟨(d0, ([] : (List (Int × Int)))), none, rfl, c0, r0, r1, r3, he9⟩ (fun i σ' H' hp => by obtain ⟨s10, y11, rfl, c0, r0, r1, r3, _⟩ := hp; exact r1) (fun i14 x13 u15 σ' H' hx12 r16 hp => ?_) (fun σ' H' hp => ?_)
    ·
      obtain ⟨s10, y11, rfl, c0, r0, r1, r3, hle9⟩ := hp
      obtain ⟨_, hbe9, hle9⟩ := Mi.forN_go hle9 hx12
      unfold Mi.m_l_flipped_b1 at hbe9
      refine g_name (σ' := [some v0, some v1, some (.ref p1), some u15]) rfl ?_
      obtain ⟨s17, hs17, hbe9⟩ := Mi.bnd hbe9
      refine s_join (R := fun σ' H' => σ' = [some v0, some v1, some (.ref p1), some u15] ∧ Chg (F0) H0 H' ∧ (yLst yInt).rep K H' F0 v0 s17.1 ∧ (yLst (yTup (sCons yInt (sOne yInt)))).rep K H' F1 v1 d1 ∧ (yLst (yTup (sCons yInt (sOne yInt)))).rep K H' [p1] (.ref p1) s17.2 ∧ (yTup (sCons yInt (sOne yInt))).rep K H' [] u15 x13) (fun nx kx => ?_) (fun σ' H' hj => ?_)
      ·
        refine w_ifS ?_
        refine w_test ?_
        refine w_op ?_
        refine w_call ?_
        refine w_args (va_cons (val_var rfl) (va_cons val_c va_nil)) ?_
        obtain ⟨q18, hq18, hs17⟩ := Mi.bnd hs17
        refine ⟨v0, F0, s10.1, (2 : Int), q18, rfl, r0, hq18, fun H20 c19 r0 => ?_⟩
        have r1 := Ty.chg r1 c19 dd0_1.symm
        have r3 := Ty.chg r3 c19 d6.symm
        have r16 := Ty.fz r16 c19
        have c0 := c0.join c19 (fun a h => .inl (h))
        refine c_val val_c ?_
        refine w_eqI ?_
        refine ⟨_, rfl, ?_⟩
        refine c_if (fun hb => ?_) (fun hb => ?_)
        ·
          replace hs17 := Mi.ifT hb hs17
          refine q_drop (w_bm (c_val (val_var rfl) ⟨tyv_lst r3, ?_⟩))
          refine w_args (va_cons (val_var rfl) va_nil) ?_
          obtain ⟨x21, hx21, hs17⟩ := Mi.bnd hs17
          refine m_app r3 r16 hx21 fun H23 c22 r3 => ?_
          have r0 := Ty.chg r0 c22 d6
          have r1 := Ty.chg r1 c22 d7
          have r16 := Ty.fz r16 c22
          have c0 := c0.join c22 (fun a h => .inr (n8 a h))
          refine w_nextJ ?_
          obtain rfl := Option.some.inj hs17
          exact kx _ _ ⟨rfl, c0, r0, r1, r3, r16⟩
        ·
          replace hs17 := Mi.ifF hb hs17
          refine q_drop (w_bm (c_val (val_var rfl) ⟨tyv_lst r3, ?_⟩))
          refine w_cons ?_
          refine w_tup ?_
          obtain ⟨u24, F25, r26, su27, kx28, ku29⟩ := itm_tup (n := 1) (atS at1) r16
          obtain ⟨rfl, rfl⟩ := r26
          obtain ⟨u30, F31, r32, su33, kx34, ku35⟩ := itm_tup (n := 0) at0 r16
          obtain ⟨rfl, rfl⟩ := r32
          refine w_args (va_cons (ku29 (val_var rfl) val_c) (va_cons (ku35 (val_var rfl) val_c) va_nil)) ?_
          refine e_tup (K := K) (ty := (sCons yInt (sOne yInt))) (F := []) (d := (x13.2, x13.1)) (by exact Nat.le_of_ble_eq_true rfl) ⟨_, _, _, _, rfl, rfl, yInt_i, ⟨_, rfl, yInt_i⟩⟩ fun p36 H40 np39 c37 r38 => ?_
          have r0 := Ty.ex r0 c37
          have r1 := Ty.ex r1 c37
          have r3 := Ty.ex r3 c37
          have r16 := Ty.fz r16 c37
          have c0 := c0.trans c37.none
          refine w_nil ?_
          obtain ⟨x41, hx41, hs17⟩ := Mi.bnd hs17
          refine m_app r3 r38 hx41 fun H43 c42 r3 => ?_
          have r0 := Ty.chg r0 c42 d6
          have r1 := Ty.chg r1 c42 d7
          have r16 := Ty.fz r16 c42
          have c0 := c0.join c42 (fun a h => .inr (n8 a h))
          refine w_nextJ ?_
          obtain rfl := Option.some.inj hs17
          exact kx _ _ ⟨rfl, c0, r0, r1, r3, r16⟩
      obtain ⟨rfl, c0, r0, r1, r3, r16⟩ := hj
      refine w_nextJ ?_
      obtain rfl := Option.some.inj hbe9
      exact ⟨_, (some u15), rfl, c0, r0, r1, r3, hle9⟩
    obtain ⟨s10, y11, rfl, c0, r0, r1, r3, hle9⟩ := hp
    obtain rfl := Mi.forN_end hle9
    refine q_ret ?_
    refine c_val (val_var rfl) ?_
    obtain rfl := Option.some.inj hm
    exact hQ _ _ _ c0 r3 n8 r0
abbrev s_l_stirred : Stmt := topS 29
abbrev N_l_stirred : List Str := ["_law_hand_here", "_law_rows", "_law_left", "_law_stirred_here", "_law_turn"]
theorem sc_l_stirred : FnScope ["_law_hand_here", "_law_rows", "_law_left", "_law_stirred_here", "_law_turn"] ["_law_hand_here", "_law_rows"] (defScope s_l_stirred) := ⟨rfl, rfl, rfl, by decide +kernel, rfl, by decide +kernel, by decide +kernel⟩
def sp_l_stirred (K : PySem.W.Frag) : Sp := fun vs H Q _ => (∃ (v0 : V) (F0 : List Addr) (d0 : (List Int)) (v1 : V) (F1 : List Addr) (d1 : (List Int)) (r : ((List Int) × (List Int))), vs = [v0, v1] ∧ (yLst yInt).rep K H F0 v0 d0 ∧ (yLst yInt).rep K H F1 v1 d1 ∧ Dj F0 F1 ∧ Mi.m_l_stirred_0 d0 d1 = some r ∧ ∀ v H' F, Chg (F0) H H' → (yLst yInt).rep K H' F v r.1 → (∀ a ∈ F, H a = none) → (yLst yInt).rep K H' F0 v0 r.2 → Q v H') ∨ (∃ (v0 : V) (F0 : List Addr) (d0 : (List Int)) (v1 : V) (F1 : List Addr) (d1 : (List (Int × Int))) (r : ((List (Int × Int)) × (List Int))), vs = [v0, v1] ∧ (yLst yInt).rep K H F0 v0 d0 ∧ (yLst (yTup (sCons yInt (sOne yInt)))).rep K H F1 v1 d1 ∧ Dj F0 F1 ∧ Mi.m_l_stirred_1 d0 d1 = some r ∧ ∀ v H' F, Chg (F0) H H' → (yLst (yTup (sCons yInt (sOne yInt)))).rep K H' F v r.1 → (∀ a ∈ F, H a = none) → (yLst yInt).rep K H' F0 v0 r.2 → Q v H')
theorem ok_l_stirred (B : Bi mg) (CN : Cs K mg) (D : Dfn K mg "_law_stirred" s_l_stirred) (C_l_pick : Cal P w K mg "_law_pick" ["_law_hand_here", "_law_size"] 1 (sp_l_pick K)) : Cal P w K mg "_law_stirred" ["_law_hand_here", "_law_rows"] 2 (sp_l_stirred K) := by
  obtain ⟨f, fd, F, g⟩ := D.ex
  refine ⟨f, fd, g, F.kp, bindsF F (fun _ _ _ _ _ _ us hl => match us, hl with | [_, _], _ => rfl), fun base => F.ok sc_l_stirred (fun vs H Q E h => ?_) (fun cdv A outer s H0 vs Q E hr h => ?_)⟩
  · rcases h with ⟨v0, F0, d0, v1, F1, d1, r, rfl, r0, r1, dd0_1, hm, hQ⟩ | ⟨v0, F0, d0, v1, F1, d1, r, rfl, r0, r1, dd0_1, hm, hQ⟩
    all_goals rfl
  · rcases h with h | h
    ·
      obtain ⟨v0, F0, d0, v1, F1, d1, r, rfl, r0, r1, dd0_1, hm, hQ⟩ := h
      refine ⟨_, pss_cons (ps_set (i := 2) sc_l_stirred.nd rfl (.inl rfl) (pe_callTy (cl_list (K := K)) (by rfl) B.list (by decide +kernel) (pa_cons (pv 1) pa_nil)))
      (pss_cons (ps_set (i := 3) sc_l_stirred.nd rfl (.inl rfl) (pe_lst pa_nil))
      (pss_cons (ps_for PassesOwn.never rfl (pi_range1 (by rfl) B.range (pa_cons (pe_callB (cl_len (K := K)) (by rfl) B.len PySem.boot_len (pa_cons (pv 1) pa_nil)) pa_nil)) (pg_name (i := 4) sc_l_stirred.nd rfl (.inl rfl)) (pss_cons (ps_expr (pe_bm PySem.F.plainAttrs_list PySem.F.slot_list_append PySem.F.type_list_append mt_append (pv 3) (pa_cons (pe_bm PySem.F.plainAttrs_list PySem.F.slot_list_pop PySem.F.type_list_pop mt_popAt (pv 2) (pa_cons (pe_cc C_l_pick hr (pa_cons (pv 0) (pa_cons (pe_callB (cl_len (K := K)) (by rfl) B.len PySem.boot_len (pa_cons (pv 2) pa_nil)) pa_nil))) pa_nil)) pa_nil)))
      (pss_nil)))
      (pss_cons (ps_ret (pv 3)) pss_nil))), ?_⟩
      have c0 : Chg (F0) H0 H0 := Chg.refl H0
      unfold Mi.m_l_stirred_0 at hm
      refine q_asg ?_
      refine w_cb ?_
      refine w_args (va_cons (val_var rfl) va_nil) ?_
      refine w_listL r1 fun p1 H5 np4 c2 r3 => ?_
      have d6 : Dj F0 [p1] := Ty.nin r0 np4
      have d7 : Dj F1 [p1] := Ty.nin r1 np4
      have n8 : ∀ a ∈ [p1], H0 a = none := one_fresh (c0.dom p1 np4)
      have r0 := Ty.ex r0 c2
      have r1 := Ty.ex r1 c2
      have c0 := c0.trans c2.none
      refine g_name (σ' := [some v0, some v1, some (.ref p1), none, none]) rfl ?_
      refine q_asg ?_
      refine w_lst ?_
      refine w_args va_nil ?_
      refine e_lst (K := K) (τ := yInt) (by exact Nat.le_of_ble_eq_true rfl) .nil fun p9 H13 np12 c10 r11 => ?_
      have d14 : Dj F0 [p9] := Ty.nin r0 np12
      have d15 : Dj F1 [p9] := Ty.nin r1 np12
      have d16 : Dj [p1] [p9] := Ty.nin r3 np12
      have n17 : ∀ a ∈ [p9], H0 a = none := one_fresh (c0.dom p9 np12)
      have r0 := Ty.ex r0 c10
      have r1 := Ty.ex r1 c10
      have r3 := Ty.ex r3 c10
      have c0 := c0.trans c10.none
      refine g_name (σ' := [some v0, some v1, some (.ref p1), some (.ref p9), none]) rfl ?_
      refine q_for ?_
      refine w_iRng1 ?_
      refine w_args (va_cons (val_lenL r1 (val_var rfl)) va_nil) ?_
      obtain ⟨g18, hg18, hm⟩ := Mi.bnd hm
      obtain ⟨e19, he19, hm⟩ := Mi.bnd hm
      refine l_rng1 hg18 (fun i σ' H' => ∃ (s20 : ((List Int) × (List Int) × (List Int))) (y21 : Option V), σ' = [some v0, some v1, some (.ref p1), some (.ref p9), y21] ∧ Chg (F0) H0 H' ∧ (yLst yInt).rep K H' F0 v0 s20.1 ∧ (yLst yInt).rep K H' F1 v1 d1 ∧ (yLst yInt).rep K H' [p1] (.ref p1) s20.2.1 ∧ (yLst yInt).rep K H' [p9] (.ref p9) s20.2.2 ∧ Mi.forN (Mi.m_l_stirred_0_b1) s20 (List.drop i g18) = some e19) ⟨(d0, d1, ([] : (List Int))), none, rfl, c0, r0, r1, r3, r11, he19⟩ (fun i24 x23 σ' H' hx22 hp => ?_) (fun σ' H' hp => ?_)
      ·
        obtain ⟨s20, y21, rfl, c0, r0, r1, r3, r11, hle19⟩ := hp
        obtain ⟨_, hbe19, hle19⟩ := Mi.forN_go hle19 hx22
        unfold Mi.m_l_stirred_0_b1 at hbe19
        refine g_name (σ' := [some v0, some v1, some (.ref p1), some (.ref p9), some (.int x23)]) rfl ?_
        refine q_drop (w_bm (c_val (val_var rfl) ⟨tyv_lst r11, ?_⟩))
        refine w_cons ?_
        refine w_bm (c_val (val_var rfl) ⟨tyv_lst r3, ?_⟩)
        refine w_cons ?_
        refine w_call ?_
        refine w_args (va_cons (val_var rfl) (va_cons (val_lenL r3 (val_var rfl)) va_nil)) ?_
        obtain ⟨q25, hq25, hbe19⟩ := Mi.bnd hbe19
        refine ⟨v0, F0, s20.1, (s20.2.1.length : Int), q25, rfl, r0, hq25, fun H27 c26 r0 => ?_⟩
        have r1 := Ty.chg r1 c26 dd0_1.symm
        have r3 := Ty.chg r3 c26 d6.symm
        have r11 := Ty.chg r11 c26 d14.symm
        have c0 := c0.join c26 (fun a h => .inl (h))
        refine w_nil ?_
        obtain ⟨z28, hz28, hbe19⟩ := Mi.bnd hbe19
        obtain ⟨x29, hx29, hbe19⟩ := Mi.bnd hbe19
        refine m_popAt r3 hx29 (of_guard hz28) fun u32 H31 c30 r33 r3 => ?_
        have r0 := Ty.chg r0 c30 d6
        have r1 := Ty.chg r1 c30 d7
        have r11 := Ty.chg r11 c30 d16.symm
        have c0 := c0.join c30 (fun a h => .inr (n8 a h))
        obtain ⟨_, rfl⟩ := r33
        refine w_nil ?_
        obtain ⟨x34, hx34, hbe19⟩ := Mi.bnd hbe19
        refine m_app r11 yInt_i hx34 fun H36 c35 r11 => ?_
        have r0 := Ty.chg r0 c35 d14
        have r1 := Ty.chg r1 c35 d15
        have r3 := Ty.chg r3 c35 d16
        have c0 := c0.join c35 (fun a h => .inr (n17 a h))
        refine w_nextJ ?_
        obtain rfl := Option.some.inj hbe19
        exact ⟨_, (some (.int x23)), rfl, c0, r0, r1, r3, r11, hle19⟩
      obtain ⟨s20, y21, rfl, c0, r0, r1, r3, r11, hle19⟩ := hp
      obtain rfl := Mi.forN_end hle19
      refine q_ret ?_
      refine c_val (val_var rfl) ?_
      obtain rfl := Option.some.inj hm
      exact hQ _ _ _ c0 r11 n17 r0
    ·
      obtain ⟨v0, F0, d0, v1, F1, d1, r, rfl, r0, r1, dd0_1, hm, hQ⟩ := h
      refine ⟨_, pss_cons (ps_set (i := 2) sc_l_stirred.nd rfl (.inl rfl) (pe_callTy (cl_list (K := K)) (by rfl) B.list (by decide +kernel) (pa_cons (pv 1) pa_nil)))
      (pss_cons (ps_set (i := 3) sc_l_stirred.nd rfl (.inl rfl) (pe_lst pa_nil))
      (pss_cons (ps_for PassesOwn.never rfl (pi_range1 (by rfl) B.range (pa_cons (pe_callB (cl_len (K := K)) (by rfl) B.len PySem.boot_len (pa_cons (pv 1) pa_nil)) pa_nil)) (pg_name (i := 4) sc_l_stirred.nd rfl (.inl rfl)) (pss_cons (ps_expr (pe_bm PySem.F.plainAttrs_list PySem.F.slot_list_append PySem.F.type_list_append mt_append (pv 3) (pa_cons (pe_bm PySem.F.plainAttrs_list PySem.F.slot_list_pop PySem.F.type_list_pop mt_popAt (pv 2) (pa_cons (pe_cc C_l_pick hr (pa_cons (pv 0) (pa_cons (pe_callB (cl_len (K := K)) (by rfl) B.len PySem.boot_len (pa_cons (pv 2) pa_nil)) pa_nil))) pa_nil)) pa_nil)))
      (pss_nil)))
      (pss_cons (ps_ret (pv 3)) pss_nil))), ?_⟩
      have c0 : Chg (F0) H0 H0 := Chg.refl H0
      unfold Mi.m_l_stirred_1 at hm
      refine q_asg ?_
      refine w_cb ?_
      refine w_args (va_cons (val_var rfl) va_nil) ?_
      refine w_listL r1 fun p1 H5 np4 c2 r3 => ?_
      have d6 : Dj F0 [p1] := Ty.nin r0 np4
      have d7 : Dj F1 [p1] := Ty.nin r1 np4
      have n8 : ∀ a ∈ [p1], H0 a = none := one_fresh (c0.dom p1 np4)
      have r0 := Ty.ex r0 c2
      have r1 := Ty.ex r1 c2
      have c0 := c0.trans c2.none
      refine g_name (σ' := [some v0, some v1, some (.ref p1), none, none]) rfl ?_
      refine q_asg ?_
      refine w_lst ?_
      refine w_args va_nil ?_
      refine e_lst (K := K) (τ := (yTup (sCons yInt (sOne yInt)))) (by exact Nat.le_of_ble_eq_true rfl) .nil fun p9 H13 np12 c10 r11 => ?_
      have d14 : Dj F0 [p9] := Ty.nin r0 np12
      have d15 : Dj F1 [p9] := Ty.nin r1 np12
      have d16 : Dj [p1] [p9] := Ty.nin r3 np12
      have n17 : ∀ a ∈ [p9], H0 a = none := one_fresh (c0.dom p9 np12)
      have r0 := Ty.ex r0 c10
      have r1 := Ty.ex r1 c10
      have r3 := Ty.ex r3 c10
      have c0 := c0.trans c10.none
      refine g_name (σ' := [some v0, some v1, some (.ref p1), some (.ref p9), none]) rfl ?_
      refine q_for ?_
      refine w_iRng1 ?_
      refine w_args (va_cons (val_lenL r1 (val_var rfl)) va_nil) ?_
      obtain ⟨g18, hg18, hm⟩ := Mi.bnd hm
      obtain ⟨e19, he19, hm⟩ := Mi.bnd hm
      refine l_rng1 hg18 (fun i σ' H' => ∃ (s20 : ((List Int) × (List (Int × Int)) × (List (Int × Int)))) (y21 : Option V), σ' = [some v0, some v1, some (.ref p1), some (.ref p9), y21] ∧ Chg (F0) H0 H' ∧ (yLst yInt).rep K H' F0 v0 s20.1 ∧ (yLst (yTup (sCons yInt (sOne yInt)))).rep K H' F1 v1 d1 ∧ (yLst (yTup (sCons yInt (sOne yInt)))).rep K H' [p1] (.ref p1) s20.2.1 ∧ (yLst (yTup (sCons yInt (sOne yInt)))).rep K H' [p9] (.ref p9) s20.2.2 ∧ Mi.forN (Mi.m_l_stirred_1_b1) s20 (List.drop i g18) = some e19) ⟨(d0, d1, ([] : (List (Int × Int)))), none, rfl, c0, r0, r1, r3, r11, he19⟩ (fun i24 x23 σ' H' hx22 hp => ?_) (fun σ' H' hp => ?_)
      ·
        obtain ⟨s20, y21, rfl, c0, r0, r1, r3, r11, hle19⟩ := hp
        obtain ⟨_, hbe19, hle19⟩ := Mi.forN_go hle19 hx22
        unfold Mi.m_l_stirred_1_b1 at hbe19
        refine g_name (σ' := [some v0, some v1, some (.ref p1), some (.ref p9), some (.int x23)]) rfl ?_
        refine q_drop (w_bm (c_val (val_var rfl) ⟨tyv_lst r11, ?_⟩))
        refine w_cons ?_
        refine w_bm (c_val (val_var rfl) ⟨tyv_lst r3, ?_⟩)
        refine w_cons ?_
        refine w_call ?_
        refine w_args (va_cons (val_var rfl) (va_cons (val_lenL r3 (val_var rfl)) va_nil)) ?_
        obtain ⟨q25, hq25, hbe19⟩ := Mi.bnd hbe19
        refine ⟨v0, F0, s20.1, (s20.2.1.length : Int), q25, rfl, r0, hq25, fun H27 c26 r0 => ?_⟩
        have r1 := Ty.chg r1 c26 dd0_1.symm
        have r3 := Ty.chg r3 c26 d6.symm
        have r11 := Ty.chg r11 c26 d14.symm
        have c0 := c0.join c26 (fun a h => .inl (h))
        refine w_nil ?_
        obtain ⟨z28, hz28, hbe19⟩ := Mi.bnd hbe19
        obtain ⟨x29, hx29, hbe19⟩ := Mi.bnd hbe19
        refine m_popAt r3 hx29 (of_guard hz28) fun u32 H31 c30 r33 r3 => ?_
        have r0 := Ty.chg r0 c30 d6
        have r1 := Ty.chg r1 c30 d7
        have r11 := Ty.chg r11 c30 d16.symm
        have c0 := c0.join c30 (fun a h => .inr (n8 a h))
        refine w_nil ?_
        obtain ⟨x34, hx34, hbe19⟩ := Mi.bnd hbe19
        refine m_app r11 r33 hx34 fun H36 c35 r11 => ?_
        have r0 := Ty.chg r0 c35 d14
        have r1 := Ty.chg r1 c35 d15
        have r3 := Ty.chg r3 c35 d16
        have c0 := c0.join c35 (fun a h => .inr (n17 a h))
        refine w_nextJ ?_
        obtain rfl := Option.some.inj hbe19
        exact ⟨_, (some (.int x23)), rfl, c0, r0, r1, r3, r11, hle19⟩
      obtain ⟨s20, y21, rfl, c0, r0, r1, r3, r11, hle19⟩ := hp
      obtain rfl := Mi.forN_end hle19
      refine q_ret ?_
      refine c_val (val_var rfl) ?_
      obtain rfl := Option.some.inj hm
      exact hQ _ _ _ c0 r11 n17 r0
abbrev s_l_row : Stmt := topS 30
abbrev N_l_row : List Str := ["_law_told", "_law_due", "_law_k"]
theorem sc_l_row : FnScope ["_law_told", "_law_due", "_law_k"] ["_law_told", "_law_due"] (defScope s_l_row) := ⟨rfl, rfl, rfl, by decide +kernel, rfl, by decide +kernel, by decide +kernel⟩
def sp_l_row (K : PySem.W.Frag) : Sp := fun vs H Q _ => (∃ (v0 : V) (d0 : (List Int)) (v1 : V) (F1 : List Addr) (d1 : (List Int)) (r : Bool), vs = [v0, v1] ∧ (yTupL yInt).rep K H [] v0 d0 ∧ (yLst yInt).rep K H F1 v1 d1 ∧ Mi.m_l_row_0 d0 d1 = some r ∧ ∀ H', Chg ([]) H H' → Q (.bl r) H') ∨ (∃ (v0 : V) (d0 : (List Int)) (v1 : V) (d1 : (List Int)) (r : Bool), vs = [v0, v1] ∧ (yTupL yInt).rep K H [] v0 d0 ∧ (yTupL yInt).rep K H [] v1 d1 ∧ Mi.m_l_row_1 d0 d1 = some r ∧ ∀ H', Chg ([]) H H' → Q (.bl r) H')
theorem ok_l_row (B : Bi mg) (CN : Cs K mg) (D : Dfn K mg "_law_row" s_l_row) (C_l_int : Cal P w K mg "_law_int" ["_law_x"] 1 (sp_l_int K)) : Cal P w K mg "_law_row" ["_law_told", "_law_due"] 2 (sp_l_row K) := by
  obtain ⟨f, fd, F, g⟩ := D.ex
  refine ⟨f, fd, g, F.kp, bindsF F (fun _ _ _ _ _ _ us hl => match us, hl with | [_, _], _ => rfl), fun base => F.ok sc_l_row (fun vs H Q E h => ?_) (fun cdv A outer s H0 vs Q E hr h => ?_)⟩
  · rcases h with ⟨v0, d0, v1, F1, d1, r, rfl, r0, r1, hm, hQ⟩ | ⟨v0, d0, v1, d1, r, rfl, r0, r1, hm, hQ⟩
    all_goals rfl
  · rcases h with h | h
    ·
      obtain ⟨v0, d0, v1, F1, d1, r, rfl, r0, r1, hm, hQ⟩ := h
      refine ⟨_, pss_cons (ps_if (PW.pt (pw_or (pt_not (pt_val (pe_callB (cl_isi (K := K)) (by rfl) B.isinstance (by decide +kernel) (pa_cons (pv 0) (pa_cons (pe_bltn (v := .ty "tuple") (by rfl) B.tuple (by decide +kernel) rfl) pa_nil))))) (pw_or1 (pt_cmpR op_ne (pe_callB (cl_len (K := K)) (by rfl) B.len PySem.boot_len (pa_cons (pv 0) pa_nil)) (pe_callB (cl_len (K := K)) (by rfl) B.len PySem.boot_len (pa_cons (pv 1) pa_nil)) (nomark _))))) (pss_cons (ps_ret pe_bl) pss_nil) (pss_nil))
      (pss_cons (ps_for PassesOwn.never rfl (pi_range1 (by rfl) B.range (pa_cons (pe_callB (cl_len (K := K)) (by rfl) B.len PySem.boot_len (pa_cons (pv 1) pa_nil)) pa_nil)) (pg_name (i := 2) sc_l_row.nd rfl (.inl rfl)) (pss_cons (ps_if (PW.pt (pw_or (pt_not (pt_val (pe_cc C_l_int hr (pa_cons (pe_ix (ix_t (K := K)) (pv 0) (pv 2) (fun _ _ => rfl)) pa_nil)))) (pw_or1 (pt_cmpR op_ne (pe_ix (ix_t (K := K)) (pv 0) (pv 2) (fun _ _ => rfl)) (pe_ix (ix_l (K := K)) (pv 1) (pv 2) (fun _ _ => rfl)) (nomark _))))) (pss_cons (ps_ret pe_bl) pss_nil) (pss_nil))
      (pss_nil)))
      (pss_cons (ps_ret pe_bl) pss_nil)), ?_⟩
      have c0 : Chg ([] : List Addr) H0 H0 := Chg.refl H0
      unfold Mi.m_l_row_0 at hm
      refine q_if (ans_orB (ans_N (ans_B (val_isi (val_var rfl) (ty_tupl r0) (n := "tuple") (m := "tuple") (b := true) (by decide +kernel)))) (fun _ => (ans_t (val_neI (val_lenT r0 (val_var rfl)) (val_lenL r1 (val_var rfl)))))) (fun hb => ?_) (fun hb => ?_)
      ·
        replace hm := Mi.ifT hb hm
        refine q_ret ?_
        refine c_val val_c ?_
        obtain rfl := Option.some.inj hm
        exact hQ _ c0 
      replace hm := Mi.ifF hb hm
      refine w_fall ?_
      refine q_for ?_
      refine w_iRng1 ?_
      refine w_args (va_cons (val_lenL r1 (val_var rfl)) va_nil) ?_
      obtain ⟨g2, hg2, hm⟩ := Mi.bnd hm
      obtain ⟨e3, he3, hm⟩ := Mi.bnd hm
      refine l_rng1 hg2 (fun i σ' H' => ∃ (s4 : Unit) (y5 : Option V), σ' = [some v0, some v1, y5] ∧ Chg ([] : List Addr) H0 H' ∧ (yTupL yInt).rep K H' [] v0 d0 ∧ (yLst yInt).rep K H' F1 v1 d1 ∧ Mi.forR (Mi.m_l_row_0_b1 d0 d1) s4 (List.drop i g2) = some e3) ⟨(), none, rfl, c0, r0, r1, he3⟩ (fun i8 x7 σ' H' hx6 hp => ?_) (fun σ' H' hp => ?_)
      ·
        obtain ⟨s4, y5, rfl, c0, r0, r1, hle3⟩ := hp
        obtain ⟨o9, hbe3, hore3⟩ := Mi.forR_go hle3 hx6
        unfold Mi.m_l_row_0_b1 at hbe3
        refine g_name (σ' := [some v0, some v1, some (.int x7)]) rfl ?_
        refine q_ifS ?_
        obtain ⟨b10, hb10, hbe3⟩ := Mi.bnd hbe3
        refine j_tt b10 (R := fun H' => Chg ([] : List Addr) H0 H' ∧ (yTupL yInt).rep K H' [] v0 d0 ∧ (yLst yInt).rep K H' F1 v1 d1) (fun Q' kq => ?_) (fun H' hj => ?_)
        ·
          refine w_or ?_
          refine w_not ?_
          refine w_B ?_
          refine w_call ?_
          obtain ⟨x11, hx11, hb10⟩ := Mi.bnd hb10
          refine w_args (va_cons (itm_TI r0 hx11 (val_var rfl) (val_var rfl)) va_nil) ?_
          obtain ⟨q12, hq12, hb10⟩ := Mi.bnd hb10
          refine Or.inl ⟨x11, q12, rfl, hq12, fun H14 c13  => ?_⟩
          have r0 := Ty.fz r0 c13
          have r1 := Ty.ex r1 c13
          have c0 := c0.trans c13.none
          refine ⟨_, rfl, ?_⟩
          refine c_if (fun hb => ?_) (fun hb => ?_)
          ·
            replace hb10 := Mi.ifT hb hb10
            obtain rfl := Option.some.inj hb10
            exact kq _ ⟨c0, r0, r1⟩
          replace hb10 := Mi.ifF hb hb10
          obtain ⟨x15, hx15, hb10⟩ := Mi.bnd hb10
          obtain ⟨x16, hx16, hb10⟩ := Mi.bnd hb10
          refine c_ans (ans_t (val_neI (itm_TI r0 hx15 (val_var rfl) (val_var rfl)) (itm_LI r1 hx16 (val_var rfl) (val_var rfl)))) ?_
          obtain rfl := Option.some.inj hb10
          exact kq _ ⟨c0, r0, r1⟩
        obtain ⟨c0, r0, r1⟩ := hj
        refine c_if (fun hb => ?_) (fun hb => ?_)
        ·
          replace hbe3 := Mi.ifT hb hbe3
          refine q_ret ?_
          refine c_val val_c ?_
          obtain rfl := Option.some.inj hbe3
          obtain rfl := Mi.or_inl hore3
          obtain rfl := Option.some.inj (Mi.orR_inl hm)
          exact hQ _ c0 
        replace hbe3 := Mi.ifF hb hbe3
        refine w_fall ?_
        refine w_nextJ ?_
        obtain rfl := Option.some.inj hbe3
        replace hore3 := Mi.or_inr hore3
        exact ⟨_, (some (.int x7)), rfl, c0, r0, r1, hore3⟩
      obtain ⟨s4, y5, rfl, c0, r0, r1, hle3⟩ := hp
      obtain rfl := Mi.forR_end hle3
      replace hm := Mi.orR_inr hm
      refine q_ret ?_
      refine c_val val_c ?_
      obtain rfl := Option.some.inj hm
      exact hQ _ c0 
    ·
      obtain ⟨v0, d0, v1, d1, r, rfl, r0, r1, hm, hQ⟩ := h
      refine ⟨_, pss_cons (ps_if (PW.pt (pw_or (pt_not (pt_val (pe_callB (cl_isi (K := K)) (by rfl) B.isinstance (by decide +kernel) (pa_cons (pv 0) (pa_cons (pe_bltn (v := .ty "tuple") (by rfl) B.tuple (by decide +kernel) rfl) pa_nil))))) (pw_or1 (pt_cmpR op_ne (pe_callB (cl_len (K := K)) (by rfl) B.len PySem.boot_len (pa_cons (pv 0) pa_nil)) (pe_callB (cl_len (K := K)) (by rfl) B.len PySem.boot_len (pa_cons (pv 1) pa_nil)) (nomark _))))) (pss_cons (ps_ret pe_bl) pss_nil) (pss_nil))
      (pss_cons (ps_for PassesOwn.never rfl (pi_range1 (by rfl) B.range (pa_cons (pe_callB (cl_len (K := K)) (by rfl) B.len PySem.boot_len (pa_cons (pv 1) pa_nil)) pa_nil)) (pg_name (i := 2) sc_l_row.nd rfl (.inl rfl)) (pss_cons (ps_if (PW.pt (pw_or (pt_not (pt_val (pe_cc C_l_int hr (pa_cons (pe_ix (ix_t (K := K)) (pv 0) (pv 2) (fun _ _ => rfl)) pa_nil)))) (pw_or1 (pt_cmpR op_ne (pe_ix (ix_t (K := K)) (pv 0) (pv 2) (fun _ _ => rfl)) (pe_ix (ix_t (K := K)) (pv 1) (pv 2) (fun _ _ => rfl)) (nomark _))))) (pss_cons (ps_ret pe_bl) pss_nil) (pss_nil))
      (pss_nil)))
      (pss_cons (ps_ret pe_bl) pss_nil)), ?_⟩
      have c0 : Chg ([] : List Addr) H0 H0 := Chg.refl H0
      unfold Mi.m_l_row_1 at hm
      refine q_if (ans_orB (ans_N (ans_B (val_isi (val_var rfl) (ty_tupl r0) (n := "tuple") (m := "tuple") (b := true) (by decide +kernel)))) (fun _ => (ans_t (val_neI (val_lenT r0 (val_var rfl)) (val_lenT r1 (val_var rfl)))))) (fun hb => ?_) (fun hb => ?_)
      ·
        replace hm := Mi.ifT hb hm
        refine q_ret ?_
        refine c_val val_c ?_
        obtain rfl := Option.some.inj hm
        exact hQ _ c0 
      replace hm := Mi.ifF hb hm
      refine w_fall ?_
      refine q_for ?_
      refine w_iRng1 ?_
      refine w_args (va_cons (val_lenT r1 (val_var rfl)) va_nil) ?_
      obtain ⟨g2, hg2, hm⟩ := Mi.bnd hm
      obtain ⟨e3, he3, hm⟩ := Mi.bnd hm
      refine l_rng1 hg2 (fun i σ' H' => ∃ (s4 : Unit) (y5 : Option V), σ' = [some v0, some v1, y5] ∧ Chg ([] : List Addr) H0 H' ∧ (yTupL yInt).rep K H' [] v0 d0 ∧ (yTupL yInt).rep K H' [] v1 d1 ∧ Mi.forR (Mi.m_l_row_1_b1 d0 d1) s4 (List.drop i g2) = some e3) ⟨(), none, rfl, c0, r0, r1, he3⟩ (fun i8 x7 σ' H' hx6 hp => ?_) (fun σ' H' hp => ?_)
      ·
        obtain ⟨s4, y5, rfl, c0, r0, r1, hle3⟩ := hp
        obtain ⟨o9, hbe3, hore3⟩ := Mi.forR_go hle3 hx6
        unfold Mi.m_l_row_1_b1 at hbe3
        refine g_name (σ' := [some v0, some v1, some (.int x7)]) rfl ?_
        refine q_ifS ?_
        obtain ⟨b10, hb10, hbe3⟩ := Mi.bnd hbe3
        refine j_tt b10 (R := fun H' => Chg ([] : List Addr) H0 H' ∧ (yTupL yInt).rep K H' [] v0 d0 ∧ (yTupL yInt).rep K H' [] v1 d1) (fun Q' kq => ?_) (fun H' hj => ?_)
        ·
          refine w_or ?_
          refine w_not ?_
          refine w_B ?_
          refine w_call ?_
          obtain ⟨x11, hx11, hb10⟩ := Mi.bnd hb10
          refine w_args (va_cons (itm_TI r0 hx11 (val_var rfl) (val_var rfl)) va_nil) ?_
          obtain ⟨q12, hq12, hb10⟩ := Mi.bnd hb10
          refine Or.inl ⟨x11, q12, rfl, hq12, fun H14 c13  => ?_⟩
          have r0 := Ty.fz r0 c13
          have r1 := Ty.fz r1 c13
          have c0 := c0.trans c13.none
          refine ⟨_, rfl, ?_⟩
          refine c_if (fun hb => ?_) (fun hb => ?_)
          ·
            replace hb10 := Mi.ifT hb hb10
            obtain rfl := Option.some.inj hb10
            exact kq _ ⟨c0, r0, r1⟩
          replace hb10 := Mi.ifF hb hb10
          obtain ⟨x15, hx15, hb10⟩ := Mi.bnd hb10
          obtain ⟨x16, hx16, hb10⟩ := Mi.bnd hb10
          refine c_ans (ans_t (val_neI (itm_TI r0 hx15 (val_var rfl) (val_var rfl)) (itm_TI r1 hx16 (val_var rfl) (val_var rfl)))) ?_
          obtain rfl := Option.some.inj hb10
          exact kq _ ⟨c0, r0, r1⟩
        obtain ⟨c0, r0, r1⟩ := hj
        refine c_if (fun hb => ?_) (fun hb => ?_)
        ·
          replace hbe3 := Mi.ifT hb hbe3
          refine q_ret ?_
          refine c_val val_c ?_
          obtain rfl := Option.some.inj hbe3
          obtain rfl := Mi.or_inl hore3
          obtain rfl := Option.some.inj (Mi.orR_inl hm)
          exact hQ _ c0 
        replace hbe3 := Mi.ifF hb hbe3
        refine w_fall ?_
        refine w_nextJ ?_
        obtain rfl := Option.some.inj hbe3
        replace hore3 := Mi.or_inr hore3
        exact ⟨_, (some (.int x7)), rfl, c0, r0, r1, hore3⟩
      obtain ⟨s4, y5, rfl, c0, r0, r1, hle3⟩ := hp
      obtain rfl := Mi.forR_end hle3
      replace hm := Mi.orR_inr hm
      refine q_ret ?_
      refine c_val val_c ?_
      obtain rfl := Option.some.inj hm
      exact hQ _ c0 
abbrev s_l_ordered : Stmt := topS 31
abbrev N_l_ordered : List Str := ["_law_joins", "_law_size", "_law_rows", "_law_a", "_law_b"]
theorem sc_l_ordered : FnScope ["_law_joins", "_law_size", "_law_rows", "_law_a", "_law_b"] ["_law_joins", "_law_size"] (defScope s_l_ordered) := ⟨rfl, rfl, rfl, by decide +kernel, rfl, by decide +kernel, by decide +kernel⟩
def sp_l_ordered (K : PySem.W.Frag) : Sp := fun vs H Q _ => ∃ (v0 : V) (F0 : List Addr) (d0 : (List (Int × Int))) (d1 : Int) (r : (List (Int × Int))), vs = [v0, (.int d1)] ∧ (yLst (yTup (sCons yInt (sOne yInt)))).rep K H F0 v0 d0 ∧ Mi.m_l_ordered d0 d1 = some r ∧ ∀ v H' F, Chg ([]) H H' → (yLst (yTup (sCons yInt (sOne yInt)))).rep K H' F v r → (∀ a ∈ F, H a = none) → Q v H'
theorem ok_l_ordered (B : Bi mg) (CN : Cs K mg) (D : Dfn K mg "_law_ordered" s_l_ordered)  : Cal P w K mg "_law_ordered" ["_law_joins", "_law_size"] 1 (sp_l_ordered K) := by
  obtain ⟨f, fd, F, g⟩ := D.ex
  refine ⟨f, fd, g, F.kp, bindsF F (fun _ _ _ _ _ _ us hl => match us, hl with | [_, _], _ => rfl), fun base => F.ok sc_l_ordered (fun vs H Q E h => ?_) (fun cdv A outer s H0 vs Q E hr h => ?_)⟩
  · obtain ⟨v0, F0, d0, d1, r, rfl, r0, hm, hQ⟩ := h; rfl
  ·
    obtain ⟨v0, F0, d0, d1, r, rfl, r0, hm, hQ⟩ := h
    refine ⟨_, pss_cons (ps_set (i := 2) sc_l_ordered.nd rfl (.inl rfl) (pe_lst pa_nil))
      (pss_cons (ps_for PassesOwn.never rfl (pi_range1 (by rfl) B.range (pa_cons (pv 1) pa_nil)) (pg_name (i := 3) sc_l_ordered.nd rfl (.inl rfl)) (pss_cons (ps_for PassesOwn.never rfl (pi_range1 (by rfl) B.range (pa_cons (pv 1) pa_nil)) (pg_name (i := 4) sc_l_ordered.nd rfl (.inl rfl)) (pss_cons (ps_if (pt_cmpR (op_in_d (K := K) (units1 hr)) (pe_tup (pa_cons (pv 3) (pa_cons (pv 4) pa_nil))) (pv 0) (by rfl)) (pss_cons (ps_expr (pe_bm PySem.F.plainAttrs_list PySem.F.slot_list_append PySem.F.type_list_append mt_append (pv 2) (pa_cons (pe_tup (pa_cons (pv 3) (pa_cons (pv 4) pa_nil))) pa_nil)))
      (pss_nil)) (pss_nil))
      (pss_nil)))
      (pss_nil)))
      (pss_cons (ps_ret (pv 2)) pss_nil)), ?_⟩
    have c0 : Chg ([] : List Addr) H0 H0 := Chg.refl H0
    unfold Mi.m_l_ordered at hm
    refine q_asg ?_
    refine w_lst ?_
    refine w_args va_nil ?_
    refine e_lst (K := K) (τ := (yTup (sCons yInt (sOne yInt)))) (by exact Nat.le_of_ble_eq_true rfl) .nil fun p1 H5 np4 c2 r3 => ?_
    have d6 : Dj F0 [p1] := Ty.nin r0 np4
    have n7 : ∀ a ∈ [p1], H0 a = none := one_fresh (c0.dom p1 np4)
    have r0 := Ty.ex r0 c2
    have c0 := c0.trans c2.none
    refine g_name (σ' := [some v0, some (.int d1), some (.ref p1), none, none]) rfl ?_
    refine q_for ?_
    refine w_iRng1 ?_
    refine w_args (va_cons (val_var rfl) va_nil) ?_
    obtain ⟨g8, hg8, hm⟩ := Mi.bnd hm
    obtain ⟨e9, he9, hm⟩ := Mi.bnd hm
    refine l_rng1 hg8 (fun i σ' H' => ∃ (s10 : (List (Int × Int))) (y11 : Option V) (y12 : Option V), σ' = [some v0, some (.int d1), some (.ref p1), y11, y12] ∧ Chg ([] : List Addr) H0 H' ∧ (yLst (yTup (sCons yInt (sOne yInt)))).rep K H' F0 v0 d0 ∧ (yLst (yTup (sCons yInt (sOne yInt)))).rep K H' [p1] (.ref p1) s10 ∧ Mi.forN (Mi.m_l_ordered_b1 d0 d1) s10 (List.drop i g8) = some e9) ⟨([] : (List (Int × Int))), none, none, rfl, c0, r0, r3, he9⟩ (fun i15 x14 σ' H' hx13 hp => ?_) (fun σ' H' hp => ?_)
    ·
      obtain ⟨s10, y11, y12, rfl, c0, r0, r3, hle9⟩ := hp
      obtain ⟨_, hbe9, hle9⟩ := Mi.forN_go hle9 hx13
      unfold Mi.m_l_ordered_b1 at hbe9
      refine g_name (σ' := [some v0, some (.int d1), some (.ref p1), some (.int x14), y12]) rfl ?_
      refine q_for ?_
      refine w_iRng1 ?_
      refine w_args (va_cons (val_var rfl) va_nil) ?_
      obtain ⟨g16, hg16, hbe9⟩ := Mi.bnd hbe9
      obtain ⟨e17, he17, hbe9⟩ := Mi.bnd hbe9
      refine l_rng1 hg16 (fun i σ' H' => ∃ (s18 : (List (Int × Int))) (y19 : Option V), σ' = [some v0, some (.int d1), some (.ref p1), some (.int x14), y19] ∧ Chg ([] : List Addr) H0 H' ∧ (yLst (yTup (sCons yInt (sOne yInt)))).rep K H' F0 v0 d0 ∧ (yLst (yTup (sCons yInt (sOne yInt)))).rep K H' [p1] (.ref p1) s18 ∧ Mi.forN (Mi.m_l_ordered_b2 d0 x14) s18 (List.drop i g16) = some e17) ⟨s10, y12, rfl, c0, r0, r3, he17⟩ (fun i22 x21 σ' H' hx20 hp => ?_) (fun σ' H' hp => ?_)
      ·
        obtain ⟨s18, y19, rfl, c0, r0, r3, hle17⟩ := hp
        obtain ⟨_, hbe17, hle17⟩ := Mi.forN_go hle17 hx20
        unfold Mi.m_l_ordered_b2 at hbe17
        refine g_name (σ' := [some v0, some (.int d1), some (.ref p1), some (.int x14), some (.int x21)]) rfl ?_
        obtain ⟨s23, hs23, hbe17⟩ := Mi.bnd hbe17
        refine s_join (R := fun σ' H' => σ' = [some v0, some (.int d1), some (.ref p1), some (.int x14), some (.int x21)] ∧ Chg ([] : List Addr) H0 H' ∧ (yLst (yTup (sCons yInt (sOne yInt)))).rep K H' F0 v0 d0 ∧ (yLst (yTup (sCons yInt (sOne yInt)))).rep K H' [p1] (.ref p1) s23) (fun nx kx => ?_) (fun σ' H' hj => ?_)
        ·
          refine w_ifS ?_
          refine w_test ?_
          refine w_op ?_
          refine w_tup ?_
          refine w_args (va_cons (val_var rfl) (va_cons (val_var rfl) va_nil)) ?_
          refine e_tup (K := K) (ty := (sCons yInt (sOne yInt))) (F := []) (d := (x14, x21)) (by exact Nat.le_of_ble_eq_true rfl) ⟨_, _, _, _, rfl, rfl, yInt_i, ⟨_, rfl, yInt_i⟩⟩ fun p24 H28 np27 c25 r26 => ?_
          have r0 := Ty.ex r0 c25
          have r3 := Ty.ex r3 c25
          have c0 := c0.trans c25.none
          refine c_val (val_var rfl) ?_
          refine w_inD (dat_tup (sat_cons dat_int (sat_one dat_int))) r0 r26 ?_
          refine ⟨_, rfl, ?_⟩
          refine c_if (fun hb => ?_) (fun hb => ?_)
          ·
            replace hs23 := Mi.ifT hb hs23
            refine q_drop (w_bm (c_val (val_var rfl) ⟨tyv_lst r3, ?_⟩))
            refine w_cons ?_
            refine w_tup ?_
            refine w_args (va_cons (val_var rfl) (va_cons (val_var rfl) va_nil)) ?_
            refine e_tup (K := K) (ty := (sCons yInt (sOne yInt))) (F := []) (d := (x14, x21)) (by exact Nat.le_of_ble_eq_true rfl) ⟨_, _, _, _, rfl, rfl, yInt_i, ⟨_, rfl, yInt_i⟩⟩ fun p29 H33 np32 c30 r31 => ?_
            have r0 := Ty.ex r0 c30
            have r3 := Ty.ex r3 c30
            have c0 := c0.trans c30.none
            refine w_nil ?_
            obtain ⟨x34, hx34, hs23⟩ := Mi.bnd hs23
            refine m_app r3 r31 hx34 fun H36 c35 r3 => ?_
            have r0 := Ty.chg r0 c35 d6
            have c0 := c0.join c35 (fun a h => .inr (n7 a h))
            refine w_nextJ ?_
            obtain rfl := Option.some.inj hs23
            exact kx _ _ ⟨rfl, c0, r0, r3⟩
          ·
            replace hs23 := Mi.ifF hb hs23
            refine w_nextJ ?_
            obtain rfl := Option.some.inj hs23
            exact kx _ _ ⟨rfl, c0, r0, r3⟩
        obtain ⟨rfl, c0, r0, r3⟩ := hj
        refine w_nextJ ?_
        obtain rfl := Option.some.inj hbe17
        exact ⟨_, (some (.int x21)), rfl, c0, r0, r3, hle17⟩
      obtain ⟨s18, y19, rfl, c0, r0, r3, hle17⟩ := hp
      obtain rfl := Mi.forN_end hle17
      refine w_nextJ ?_
      obtain rfl := Option.some.inj hbe9
      exact ⟨_, (some (.int x14)), y19, rfl, c0, r0, r3, hle9⟩
    obtain ⟨s10, y11, y12, rfl, c0, r0, r3, hle9⟩ := hp
    obtain rfl := Mi.forN_end hle9
    refine q_ret ?_
    refine c_val (val_var rfl) ?_
    obtain rfl := Option.some.inj hm
    exact hQ _ _ _ c0 r3 n7 
abbrev s_l_parts : Stmt := topS 32
abbrev N_l_parts : List Str := ["_law_chart", "_law_sea_here", "_law_size", "_law_rows", "_law_k", "_law_place"]
theorem sc_l_parts : FnScope ["_law_chart", "_law_sea_here", "_law_size", "_law_rows", "_law_k", "_law_place"] ["_law_chart", "_law_sea_here"] (defScope s_l_parts) := ⟨rfl, rfl, rfl, by decide +kernel, rfl, by decide +kernel, by decide +kernel⟩
def sp_l_parts (K : PySem.W.Frag) (C_Chart : Addr) : Sp := fun vs H Q _ => ∃ (v0 : V) (d0 : (Int × (List Int) × (List (Int × Int)) × (List Int) × (List Int) × (List (List Int)))) (v1 : V) (F1 : List Addr) (d1 : ((List Int) × (List (Int × Int)) × (List Int) × (List Int))) (r : Bool), vs = [v0, v1] ∧ (yObj C_Chart nm_Chart ty_Chart).rep K H [] v0 d0 ∧ (yTup (sCons (yLst yInt) (sCons (yLst (yTup (sCons yInt (sOne yInt)))) (sCons (yLst yInt) (sOne (yLst yInt)))))).rep K H F1 v1 d1 ∧ Mi.m_l_parts d0 d1 = some r ∧ ∀ H', Chg ([]) H H' → Q (.bl r) H'
theorem ok_l_parts (B : Bi mg) (CN : Cs K mg) (D : Dfn K mg "_law_parts" s_l_parts) {C_Chart : Addr} (T_Chart : Tx K mg C_Chart "Chart" nm_Chart) (C_l_int : Cal P w K mg "_law_int" ["_law_x"] 1 (sp_l_int K)) (C_l_row : Cal P w K mg "_law_row" ["_law_told", "_law_due"] 2 (sp_l_row K)) (C_l_ordered : Cal P w K mg "_law_ordered" ["_law_joins", "_law_size"] 1 (sp_l_ordered K)) : Cal P w K mg "_law_parts" ["_law_chart", "_law_sea_here"] 3 (sp_l_parts K C_Chart) := by
  obtain ⟨f, fd, F, g⟩ := D.ex
  refine ⟨f, fd, g, F.kp, bindsF F (fun _ _ _ _ _ _ us hl => match us, hl with | [_, _], _ => rfl), fun base => F.ok sc_l_parts (fun vs H Q E h => ?_) (fun cdv A outer s H0 vs Q E hr h => ?_)⟩
  · obtain ⟨v0, d0, v1, F1, d1, r, rfl, r0, r1, hm, hQ⟩ := h; rfl
  ·
    obtain ⟨v0, d0, v1, F1, d1, r, rfl, r0, r1, hm, hQ⟩ := h
    refine ⟨_, pss_cons (ps_set (i := 2) sc_l_parts.nd rfl (.inl rfl) (pe_callB (cl_len (K := K)) (by rfl) B.len PySem.boot_len (pa_cons (pe_ix (ix_t (K := K)) (pv 1) pe_int (fun _ _ => rfl)) pa_nil)))
      (pss_cons (ps_if (PW.pt (pw_or (pt_not (pt_val (pe_cc C_l_int hr (pa_cons (pe_fldk (K := K) (pv 0) (by rfl)) pa_nil)))) (pw_or1 (pt_cmpR op_ne (pe_fldk (K := K) (pv 0) (by rfl)) (pv 2) (nomark _))))) (pss_cons (ps_ret pe_bl) pss_nil) (pss_nil))
      (pss_cons (ps_if (PW.pt (pw_or (pt_not (pt_val (pe_cc C_l_row hr (pa_cons (pe_fldk (K := K) (pv 0) (by rfl)) (pa_cons (pe_ix (ix_t (K := K)) (pv 1) pe_int (fun _ _ => rfl)) pa_nil))))) (pw_or1 (pt_not (pt_val (pe_cc C_l_row hr (pa_cons (pe_fldk (K := K) (pv 0) (by rfl)) (pa_cons (pe_ix (ix_t (K := K)) (pv 1) pe_int (fun _ _ => rfl)) pa_nil)))))))) (pss_cons (ps_ret pe_bl) pss_nil) (pss_nil))
      (pss_cons (ps_if (pt_not (pt_val (pe_cc C_l_row hr (pa_cons (pe_fldk (K := K) (pv 0) (by rfl)) (pa_cons (pe_lc (own := [("_law_place", 5)]) rfl sc_l_parts.nd (pi_range1 (by rfl) B.range (pa_cons (pv 2) pa_nil)) (blkOk_by (own := [("_law_place", 5)]) (N := N_l_parts) (sc := defScope s_l_parts) (by decide +kernel)) (fun _ _ _ _ _ => (pg_name (i := 5) sc_l_parts.nd rfl (.inl rfl))) (fun _ _ _ _ _ => (pts_one (pt_cmpR (op_in_q (K := K)) (pv 5) (pe_ix (ix_t (K := K)) (pv 1) pe_int (fun _ _ => rfl)) (by rfl)))) (fun _ _ _ _ _ => (pv 5))) pa_nil))))) (pss_cons (ps_ret pe_bl) pss_nil) (pss_nil))
      (pss_cons (ps_set (i := 3) sc_l_parts.nd rfl (.inl rfl) (pe_cc C_l_ordered hr (pa_cons (pe_ix (ix_t (K := K)) (pv 1) pe_int (fun _ _ => rfl)) (pa_cons (pv 2) pa_nil))))
      (pss_cons (ps_if (PW.pt (pw_or (pt_not (pt_val (pe_callB (cl_isi (K := K)) (by rfl) B.isinstance (by decide +kernel) (pa_cons (pe_fldk (K := K) (pv 0) (by rfl)) (pa_cons (pe_bltn (v := .ty "tuple") (by rfl) B.tuple (by decide +kernel) rfl) pa_nil))))) (pw_or1 (pt_cmpR op_ne (pe_callB (cl_len (K := K)) (by rfl) B.len PySem.boot_len (pa_cons (pe_fldk (K := K) (pv 0) (by rfl)) pa_nil)) (pe_callB (cl_len (K := K)) (by rfl) B.len PySem.boot_len (pa_cons (pv 3) pa_nil)) (nomark _))))) (pss_cons (ps_ret pe_bl) pss_nil) (pss_nil))
      (pss_cons (ps_for PassesOwn.never rfl (pi_range1 (by rfl) B.range (pa_cons (pe_callB (cl_len (K := K)) (by rfl) B.len PySem.boot_len (pa_cons (pv 3) pa_nil)) pa_nil)) (pg_name (i := 4) sc_l_parts.nd rfl (.inl rfl)) (pss_cons (ps_if (pt_not (pt_val (pe_cc C_l_row hr (pa_cons (pe_ix (ix_t (K := K)) (pe_fldk (K := K) (pv 0) (by rfl)) (pv 4) (fun _ _ => rfl)) (pa_cons (pe_ix (ix_l (K := K)) (pv 3) (pv 4) (fun _ _ => rfl)) pa_nil))))) (pss_cons (ps_ret pe_bl) pss_nil) (pss_nil))
      (pss_nil)))
      (pss_cons (ps_ret pe_bl) pss_nil))))))), ?_⟩
    have c0 : Chg ([] : List Addr) H0 H0 := Chg.refl H0
    unfold Mi.m_l_parts at hm
    obtain ⟨u1, F2, r3, su4, kx5, ku6⟩ := itm_tup (n := 0) at0 r1
    obtain ⟨size7, hsize7, hm⟩ := Mi.letE hm
    refine q_setE (val_lenL r3 (ku6 (val_var rfl) val_c)) (congrArg V.int hsize7) (σ' := [some v0, some v1, some (.int size7), none, none, none]) rfl ?_
    refine q_ifS ?_
    obtain ⟨b8, hb8, hm⟩ := Mi.bnd hm
    refine j_tt b8 (R := fun H' => Chg ([] : List Addr) H0 H' ∧ (yObj C_Chart nm_Chart ty_Chart).rep K H' [] v0 d0 ∧ (yTup (sCons (yLst yInt) (sCons (yLst (yTup (sCons yInt (sOne yInt)))) (sCons (yLst yInt) (sOne (yLst yInt)))))).rep K H' F1 v1 d1) (fun Q' kq => ?_) (fun H' hj => ?_)
    ·
      refine w_or ?_
      refine w_not ?_
      refine w_B ?_
      refine w_call ?_
      obtain ⟨u9, r10, kx11, ku12⟩ := fld_obj (n := 0) (f := "size") at0 (by decide +kernel) rfl T_Chart.cls (T_Chart.na "size" (by decide +kernel)) r0
      obtain ⟨_, rfl⟩ := r10
      refine w_args (va_cons (ku12 (val_var rfl)) va_nil) ?_
      obtain ⟨q13, hq13, hb8⟩ := Mi.bnd hb8
      refine Or.inl ⟨d0.1, q13, rfl, hq13, fun H15 c14  => ?_⟩
      have r0 := Ty.fz r0 c14
      have r1 := Ty.ex r1 c14
      have c0 := c0.trans c14.none
      refine ⟨_, rfl, ?_⟩
      refine c_if (fun hb => ?_) (fun hb => ?_)
      ·
        replace hb8 := Mi.ifT hb hb8
        obtain rfl := Option.some.inj hb8
        exact kq _ ⟨c0, r0, r1⟩
      replace hb8 := Mi.ifF hb hb8
      obtain ⟨u16, r17, kx18, ku19⟩ := fld_obj (n := 0) (f := "size") at0 (by decide +kernel) rfl T_Chart.cls (T_Chart.na "size" (by decide +kernel)) r0
      obtain ⟨_, rfl⟩ := r17
      refine c_ans (ans_t (val_neI (ku19 (val_var rfl)) (val_var rfl))) ?_
      obtain rfl := Option.some.inj hb8
      exact kq _ ⟨c0, r0, r1⟩
    obtain ⟨c0, r0, r1⟩ := hj
    refine c_if (fun hb => ?_) (fun hb => ?_)
    ·
      replace hm := Mi.ifT hb hm
      refine q_ret ?_
      refine c_val val_c ?_
      obtain rfl := Option.some.inj hm
      exact hQ _ c0 
    replace hm := Mi.ifF hb hm
    refine w_fall ?_
    refine q_ifS ?_
    obtain ⟨b20, hb20, hm⟩ := Mi.bnd hm
    refine j_tt b20 (R := fun H' => Chg ([] : List Addr) H0 H' ∧ (yObj C_Chart nm_Chart ty_Chart).rep K H' [] v0 d0 ∧ (yTup (sCons (yLst yInt) (sCons (yLst (yTup (sCons yInt (sOne yInt)))) (sCons (yLst yInt) (sOne (yLst yInt)))))).rep K H' F1 v1 d1) (fun Q' kq => ?_) (fun H' hj => ?_)
    ·
      refine w_or ?_
      refine w_not ?_
      refine w_B ?_
      refine w_call ?_
      obtain ⟨u21, r22, kx23, ku24⟩ := fld_obj (n := 1) (f := "depths") (atS at0) (by decide +kernel) rfl T_Chart.cls (T_Chart.na "depths" (by decide +kernel)) r0
      obtain ⟨u25, F26, r27, su28, kx29, ku30⟩ := itm_tup (n := 0) at0 r1
      refine w_args (va_cons (ku24 (val_var rfl)) (va_cons (ku30 (val_var rfl) val_c) va_nil)) ?_
      obtain ⟨q31, hq31, hb20⟩ := Mi.bnd hb20
      refine Or.inl ⟨u21, d0.2.1, u25, F26, d1.1, q31, rfl, r22, r27, hq31, fun H33 c32  => ?_⟩
      have r0 := Ty.fz r0 c32
      have r1 := Ty.ex r1 c32
      have c0 := c0.trans c32.none
      refine ⟨_, rfl, ?_⟩
      refine c_if (fun hb => ?_) (fun hb => ?_)
      ·
        replace hb20 := Mi.ifT hb hb20
        obtain rfl := Option.some.inj hb20
        exact kq _ ⟨c0, r0, r1⟩
      replace hb20 := Mi.ifF hb hb20
      refine w_not ?_
      refine w_B ?_
      refine w_call ?_
      obtain ⟨u34, r35, kx36, ku37⟩ := fld_obj (n := 3) (f := "tide") (atS (atS (atS at0))) (by decide +kernel) rfl T_Chart.cls (T_Chart.na "tide" (by decide +kernel)) r0
      obtain ⟨u38, F39, r40, su41, kx42, ku43⟩ := itm_tup (n := 2) (atS (atS at0)) r1
      refine w_args (va_cons (ku37 (val_var rfl)) (va_cons (ku43 (val_var rfl) val_c) va_nil)) ?_
      obtain ⟨q44, hq44, hb20⟩ := Mi.bnd hb20
      refine Or.inl ⟨u34, d0.2.2.2.1, u38, F39, d1.2.2.1, q44, rfl, r35, r40, hq44, fun H46 c45  => ?_⟩
      have r0 := Ty.fz r0 c45
      have r1 := Ty.ex r1 c45
      have c0 := c0.trans c45.none
      refine ⟨_, rfl, ?_⟩
      obtain rfl := Option.some.inj hb20
      exact kq _ ⟨c0, r0, r1⟩
    obtain ⟨c0, r0, r1⟩ := hj
    refine c_if (fun hb => ?_) (fun hb => ?_)
    ·
      replace hm := Mi.ifT hb hm
      refine q_ret ?_
      refine c_val val_c ?_
      obtain rfl := Option.some.inj hm
      exact hQ _ c0 
    replace hm := Mi.ifF hb hm
    refine w_fall ?_
    refine q_ifS ?_
    refine w_not ?_
    refine w_B ?_
    refine w_call ?_
    refine w_cons ?_
    obtain ⟨u47, r48, kx49, ku50⟩ := fld_obj (n := 4) (f := "harbours") (atS (atS (atS (atS at0)))) (by decide +kernel) rfl T_Chart.cls (T_Chart.na "harbours" (by decide +kernel)) r0
    refine c_val (ku50 (val_var rfl)) ?_
    refine w_cons ?_
    refine w_lc ?_
    refine w_iRng1 ?_
    refine w_args (va_cons (val_var rfl) va_nil) ?_
    obtain ⟨g51, hg51, hm⟩ := Mi.bnd hm
    obtain ⟨e52, he52, hm⟩ := Mi.bnd hm
    refine kc_rng1 (K := K) (τ := yInt) hg51 (fun D54 i H' => ∃ (s53 : (List Int)), Chg ([] : List Addr) H0 H' ∧ (yObj C_Chart nm_Chart ty_Chart).rep K H' [] v0 d0 ∧ (yTup (sCons (yLst yInt) (sCons (yLst (yTup (sCons yInt (sOne yInt)))) (sCons (yLst yInt) (sOne (yLst yInt)))))).rep K H' F1 v1 d1 ∧ (yTupL yInt).rep K H' [] u47 d0.2.2.2.2.1 ∧ (yLst yInt).rep K H' [D54] (.ref D54) s53 ∧ Dj F1 [D54] ∧ (∀ a ∈ [D54], H0 a = none) ∧ Mi.forN (Mi.m_l_parts_b1 d1) s53 (List.drop i g51) = some e52) (fun D54 H60 np59 c58 r55 => ⟨([] : (List Int)), c0.trans c58.none, (Ty.fz r0 c58), (Ty.ex r1 c58), (Ty.fz r48 c58), r55, Ty.nin r1 np59, one_fresh (c0.dom D54 np59), he52⟩) (fun D54 i63 x62 H64 hx61 hp => ?_) (fun D54 H' np59 hp => ?_)
    ·
      obtain ⟨s53, c0, r0, r1, r48, r55, d56, n57, hle52⟩ := hp
      obtain ⟨_, hbe52, hle52⟩ := Mi.forN_go hle52 hx61
      unfold Mi.m_l_parts_b1 at hbe52
      refine g_name (σ' := [some v0, some v1, some (.int size7), none, none, some (.int x62)]) rfl ?_
      refine ⟨rfl, ?_⟩
      obtain ⟨u69, F70, r71, su72, kx73, ku74⟩ := itm_tup (n := 3) (atS (atS (atS at1))) r1
      have d75 : Dj F70 [D54] := Dj.sub (d56) su72
      refine c_ans (ans_t (val_inL r71 (val_var rfl) (ku74 (val_var rfl) val_c))) ?_
      refine c_if (fun hb => ?_) (fun hb => ?_)
      ·
        replace hbe52 := Mi.ifT hb hbe52
        refine c_val (val_var rfl) ?_
        obtain ⟨x76, hx76, hbe52⟩ := Mi.bnd hbe52
        refine e_app r55 yInt_i hx76 fun H78 c77 r55 => ?_
        have r0 := Ty.fz r0 c77
        have r1 := Ty.chg r1 c77 d56
        have r48 := Ty.fz r48 c77
        have c0 := c0.join c77 (fun a h => .inr (n57 a h))
        obtain rfl := Option.some.inj hbe52
        exact ⟨x76, c0, r0, r1, r48, r55, d56, n57, hle52⟩
      ·
        replace hbe52 := Mi.ifF hb hbe52
        obtain rfl := Option.some.inj hbe52
        exact ⟨s53, c0, r0, r1, r48, r55, d56, n57, hle52⟩
    obtain ⟨s53, c0, r0, r1, r48, r55, d56, n57, hle52⟩ := hp
    obtain rfl := Mi.forN_end hle52
    refine w_nil ?_
    obtain ⟨q79, hq79, hm⟩ := Mi.bnd hm
    refine Or.inl ⟨u47, d0.2.2.2.2.1, (.ref D54), [D54], s53, q79, rfl, r48, r55, hq79, fun H81 c80  => ?_⟩
    have r0 := Ty.fz r0 c80
    have r1 := Ty.ex r1 c80
    have c0 := c0.trans c80.none
    refine ⟨_, rfl, ?_⟩
    refine c_if (fun hb => ?_) (fun hb => ?_)
    ·
      replace hm := Mi.ifT hb hm
      refine q_ret ?_
      refine c_val val_c ?_
      obtain rfl := Option.some.inj hm
      exact hQ _ c0 
    replace hm := Mi.ifF hb hm
    refine w_fall ?_
    refine q_asg ?_
    refine w_call ?_
    obtain ⟨u82, F83, r84, su85, kx86, ku87⟩ := itm_tup (n := 1) (atS at0) r1
    refine w_args (va_cons (ku87 (val_var rfl) val_c) (va_cons (val_var rfl) va_nil)) ?_
    obtain ⟨q88, hq88, hm⟩ := Mi.bnd hm
    refine ⟨u82, F83, d1.2.1, size7, q88, rfl, r84, hq88, fun v91 H90 F93 c89 r92 fr94  => ?_⟩
    have d95 : Dj F1 F93 := Ty.fresh r1 fr94
    have n96 : ∀ a ∈ F93, H0 a = none := fun a h => c0.dom a (fr94 a h)
    have r0 := Ty.fz r0 c89
    have r1 := Ty.ex r1 c89
    have c0 := c0.trans c89.none
    refine g_name (σ' := [some v0, some v1, some (.int size7), some v91, none, none]) rfl ?_
    obtain ⟨u97, r98, kx99, ku100⟩ := fld_obj (n := 2) (f := "lanes") (atS (atS at0)) (by decide +kernel) rfl T_Chart.cls (T_Chart.na "lanes" (by decide +kernel)) r0
    obtain ⟨u102, r103, kx104, ku105⟩ := fld_obj (n := 2) (f := "lanes") (atS (atS at0)) (by decide +kernel) rfl T_Chart.cls (T_Chart.na "lanes" (by decide +kernel)) r0
    refine q_if (ans_orB (ans_N (ans_B (val_isi (ku100 (val_var rfl)) (ty_tupl r98) (n := "tuple") (m := "tuple") (b := true) (by decide +kernel)))) (fun _ => (ans_t (val_neI (val_lenT r103 (ku105 (val_var rfl))) (val_lenL r92 (val_var rfl)))))) (fun hb => ?_) (fun hb => ?_)
    ·
      replace hm := Mi.ifT hb hm
      refine q_ret ?_
      refine c_val val_c ?_
      obtain rfl := Option.some.inj hm
      exact hQ _ c0 
    replace hm := Mi.ifF hb hm
    refine w_fall ?_
    refine q_for ?_
    refine w_iRng1 ?_
    refine w_args (va_cons (val_lenL r92 (val_var rfl)) va_nil) ?_
    obtain ⟨g106, hg106, hm⟩ := Mi.bnd hm
    obtain ⟨e107, he107, hm⟩ := Mi.bnd hm
    refine l_rng1 hg106 (fun i σ' H' => ∃ (s108 : Unit) (y109 : Option V), σ' = [some v0, some v1, some (.int size7), some v91, y109, none] ∧ Chg ([] : List Addr) H0 H' ∧ (yObj C_Chart nm_Chart ty_Chart).rep K H' [] v0 d0 ∧ (yTup (sCons (yLst yInt) (sCons (yLst (yTup (sCons yInt (sOne yInt)))) (sCons (yLst yInt) (sOne (yLst yInt)))))).rep K H' F1 v1 d1 ∧ (yLst (yTup (sCons yInt (sOne yInt)))).rep K H' F93 v91 q88 ∧ Mi.forR (Mi.m_l_parts_b2 d0 q88) s108 (List.drop i g106) = some e107) ⟨(), none, rfl, c0, r0, r1, r92, he107⟩ (fun i112 x111 σ' H' hx110 hp => ?_) (fun σ' H' hp => ?_)
    ·
      obtain ⟨s108, y109, rfl, c0, r0, r1, r92, hle107⟩ := hp
      obtain ⟨o113, hbe107, hore107⟩ := Mi.forR_go hle107 hx110
      unfold Mi.m_l_parts_b2 at hbe107
      refine g_name (σ' := [some v0, some v1, some (.int size7), some v91, some (.int x111), none]) rfl ?_
      refine q_ifS ?_
      refine w_not ?_
      refine w_B ?_
      refine w_call ?_
      obtain ⟨u114, r115, kx116, ku117⟩ := fld_obj (n := 2) (f := "lanes") (atS (atS at0)) (by decide +kernel) rfl T_Chart.cls (T_Chart.na "lanes" (by decide +kernel)) r0
      obtain ⟨x118, hx118, hbe107⟩ := Mi.bnd hbe107
      obtain ⟨u119, r120, ku121⟩ := itm_T r115 hx118
      obtain ⟨x122, hx122, hbe107⟩ := Mi.bnd hbe107
      obtain ⟨u123, r124, ku125⟩ := itm_L r92 hx122
      refine w_args (va_cons (ku121 (ku117 (val_var rfl)) (val_var rfl)) (va_cons (ku125 (val_var rfl) (val_var rfl)) va_nil)) ?_
      obtain ⟨q126, hq126, hbe107⟩ := Mi.bnd hbe107
      refine Or.inr (⟨u119, [x118.1, x118.2], u123, [x122.1, x122.2], q126, rfl, (pair_tupl r120), (pair_tupl r124), hq126, fun H128 c127  => ?_⟩)
      have r0 := Ty.fz r0 c127
      have r1 := Ty.ex r1 c127
      have r92 := Ty.ex r92 c127
      have c0 := c0.trans c127.none
      refine ⟨_, rfl, ?_⟩
      refine c_if (fun hb => ?_) (fun hb => ?_)
      ·
        replace hbe107 := Mi.ifT hb hbe107
        refine q_ret ?_
        refine c_val val_c ?_
        obtain rfl := Option.some.inj hbe107
        obtain rfl := Mi.or_inl hore107
        obtain rfl := Option.some.inj (Mi.orR_inl hm)
        exact hQ _ c0 
      replace hbe107 := Mi.ifF hb hbe107
      refine w_fall ?_
      refine w_nextJ ?_
      obtain rfl := Option.some.inj hbe107
      replace hore107 := Mi.or_inr hore107
      exact ⟨_, (some (.int x111)), rfl, c0, r0, r1, r92, hore107⟩
    obtain ⟨s108, y109, rfl, c0, r0, r1, r92, hle107⟩ := hp
    obtain rfl := Mi.forR_end hle107
    replace hm := Mi.orR_inr hm
    refine q_ret ?_
    refine c_val val_c ?_
    obtain rfl := Option.some.inj hm
    exact hQ _ c0 
abbrev s_l_beside : Stmt := topS 33
abbrev N_l_beside : List Str := ["_law_sea_here", "_law_place", "_law_other"]
theorem sc_l_beside : FnScope ["_law_sea_here", "_law_place", "_law_other"] ["_law_sea_here", "_law_place"] (defScope s_l_beside) := ⟨rfl, rfl, rfl, by decide +kernel, rfl, by decide +kernel, by decide +kernel⟩
def sp_l_beside (K : PySem.W.Frag) : Sp := fun vs H Q _ => ∃ (v0 : V) (F0 : List Addr) (d0 : ((List Int) × (List (Int × Int)) × (List Int) × (List Int))) (d1 : Int) (r : (List Int)), vs = [v0, (.int d1)] ∧ (yTup (sCons (yLst yInt) (sCons (yLst (yTup (sCons yInt (sOne yInt)))) (sCons (yLst yInt) (sOne (yLst yInt)))))).rep K H F0 v0 d0 ∧ Mi.m_l_beside d0 d1 = some r ∧ ∀ v H' F, Chg ([]) H H' → (yLst yInt).rep K H' F v r → (∀ a ∈ F, H a = none) → Q v H'
theorem ok_l_beside (B : Bi mg) (CN : Cs K mg) (D : Dfn K mg "_law_beside" s_l_beside)  : Cal P w K mg "_law_beside" ["_law_sea_here", "_law_place"] 1 (sp_l_beside K) := by
  obtain ⟨f, fd, F, g⟩ := D.ex
  refine ⟨f, fd, g, F.kp, bindsF F (fun _ _ _ _ _ _ us hl => match us, hl with | [_, _], _ => rfl), fun base => F.ok sc_l_beside (fun vs H Q E h => ?_) (fun cdv A outer s H0 vs Q E hr h => ?_)⟩
  · obtain ⟨v0, F0, d0, d1, r, rfl, r0, hm, hQ⟩ := h; rfl
  ·
    obtain ⟨v0, F0, d0, d1, r, rfl, r0, hm, hQ⟩ := h
    refine ⟨_, pss_cons (ps_ret (pe_lc (own := [("_law_other", 2)]) rfl sc_l_beside.nd (pi_range1 (by rfl) B.range (pa_cons (pe_callB (cl_len (K := K)) (by rfl) B.len PySem.boot_len (pa_cons (pe_ix (ix_t (K := K)) (pv 0) pe_int (fun _ _ => rfl)) pa_nil)) pa_nil)) (blkOk_by (own := [("_law_other", 2)]) (N := N_l_beside) (sc := defScope s_l_beside) (by decide +kernel)) (fun _ _ _ _ _ => (pg_name (i := 2) sc_l_beside.nd rfl (.inl rfl))) (fun _ _ _ _ _ => (pts_one (PW.pt (pw_or (pt_cmpR (op_in_d (K := K) (units1 hr)) (pe_tup (pa_cons (pv 1) (pa_cons (pv 2) pa_nil))) (pe_ix (ix_t (K := K)) (pv 0) pe_int (fun _ _ => rfl)) (by rfl)) (pw_or1 (pt_cmpR (op_in_d (K := K) (units1 hr)) (pe_tup (pa_cons (pv 2) (pa_cons (pv 1) pa_nil))) (pe_ix (ix_t (K := K)) (pv 0) pe_int (fun _ _ => rfl)) (by rfl))))))) (fun _ _ _ _ _ => (pv 2)))) pss_nil, ?_⟩
    have c0 : Chg ([] : List Addr) H0 H0 := Chg.refl H0
    unfold Mi.m_l_beside at hm
    refine q_ret ?_
    refine w_lc ?_
    refine w_iRng1 ?_
    obtain ⟨u1, F2, r3, su4, kx5, ku6⟩ := itm_tup (n := 0) at0 r0
    refine w_args (va_cons (val_lenL r3 (ku6 (val_var rfl) val_c)) va_nil) ?_
    obtain ⟨g7, hg7, hm⟩ := Mi.bnd hm
    obtain ⟨e8, he8, hm⟩ := Mi.bnd hm
    refine kc_rng1 (K := K) (τ := yInt) hg7 (fun D10 i H' => ∃ (s9 : (List Int)), Chg ([] : List Addr) H0 H' ∧ (yTup (sCons (yLst yInt) (sCons (yLst (yTup (sCons yInt (sOne yInt)))) (sCons (yLst yInt) (sOne (yLst yInt)))))).rep K H' F0 v0 d0 ∧ (yLst yInt).rep K H' [D10] (.ref D10) s9 ∧ Dj F0 [D10] ∧ (∀ a ∈ [D10], H0 a = none) ∧ Mi.forN (Mi.m_l_beside_b1 d0 d1) s9 (List.drop i g7) = some e8) (fun D10 H16 np15 c14 r11 => ⟨([] : (List Int)), c0.trans c14.none, (Ty.ex r0 c14), r11, Ty.nin r0 np15, one_fresh (c0.dom D10 np15), he8⟩) (fun D10 i19 x18 H20 hx17 hp => ?_) (fun D10 H' np15 hp => ?_)
    ·
      obtain ⟨s9, c0, r0, r11, d12, n13, hle8⟩ := hp
      obtain ⟨_, hbe8, hle8⟩ := Mi.forN_go hle8 hx17
      unfold Mi.m_l_beside_b1 at hbe8
      refine g_name (σ' := [some v0, some (.int d1), some (.int x18)]) rfl ?_
      refine ⟨rfl, ?_⟩
      obtain ⟨b25, hb25, hbe8⟩ := Mi.bnd hbe8
      refine j_tt b25 (R := fun H' => Chg ([] : List Addr) H0 H' ∧ (yTup (sCons (yLst yInt) (sCons (yLst (yTup (sCons yInt (sOne yInt)))) (sCons (yLst yInt) (sOne (yLst yInt)))))).rep K H' F0 v0 d0 ∧ (yLst yInt).rep K H' [D10] (.ref D10) s9) (fun Q' kq => ?_) (fun H' hj => ?_)
      ·
        refine w_or ?_
        refine w_test ?_
        refine w_op ?_
        refine w_tup ?_
        refine w_args (va_cons (val_var rfl) (va_cons (val_var rfl) va_nil)) ?_
        refine e_tup (K := K) (ty := (sCons yInt (sOne yInt))) (F := []) (d := (d1, x18)) (by exact Nat.le_of_ble_eq_true rfl) ⟨_, _, _, _, rfl, rfl, yInt_i, ⟨_, rfl, yInt_i⟩⟩ fun p26 H30 np29 c27 r28 => ?_
        have r0 := Ty.ex r0 c27
        have r11 := Ty.ex r11 c27
        have c0 := c0.trans c27.none
        obtain ⟨u31, F32, r33, su34, kx35, ku36⟩ := itm_tup (n := 1) (atS at0) r0
        have d37 : Dj F32 [D10] := Dj.sub (d12) su34
        refine c_val (ku36 (val_var rfl) val_c) ?_
        refine w_inD (dat_tup (sat_cons dat_int (sat_one dat_int))) r33 r28 ?_
        refine ⟨_, rfl, ?_⟩
        refine c_if (fun hb => ?_) (fun hb => ?_)
        ·
          replace hb25 := Mi.ifT hb hb25
          obtain rfl := Option.some.inj hb25
          exact kq _ ⟨c0, r0, r11⟩
        replace hb25 := Mi.ifF hb hb25
        refine w_test ?_
        refine w_op ?_
        refine w_tup ?_
        refine w_args (va_cons (val_var rfl) (va_cons (val_var rfl) va_nil)) ?_
        refine e_tup (K := K) (ty := (sCons yInt (sOne yInt))) (F := []) (d := (x18, d1)) (by exact Nat.le_of_ble_eq_true rfl) ⟨_, _, _, _, rfl, rfl, yInt_i, ⟨_, rfl, yInt_i⟩⟩ fun p38 H42 np41 c39 r40 => ?_
        have r0 := Ty.ex r0 c39
        have r11 := Ty.ex r11 c39
        have c0 := c0.trans c39.none
        obtain ⟨u43, F44, r45, su46, kx47, ku48⟩ := itm_tup (n := 1) (atS at0) r0
        have d49 : Dj F44 [D10] := Dj.sub (d12) su46
        refine c_val (ku48 (val_var rfl) val_c) ?_
        refine w_inD (dat_tup (sat_cons dat_int (sat_one dat_int))) r45 r40 ?_
        refine ⟨_, rfl, ?_⟩
        obtain rfl := Option.some.inj hb25
        exact kq _ ⟨c0, r0, r11⟩
      obtain ⟨c0, r0, r11⟩ := hj
      refine c_if (fun hb => ?_) (fun hb => ?_)
      ·
        replace hbe8 := Mi.ifT hb hbe8
        refine c_val (val_var rfl) ?_
        obtain ⟨x50, hx50, hbe8⟩ := Mi.bnd hbe8
        refine e_app r11 yInt_i hx50 fun H52 c51 r11 => ?_
        have r0 := Ty.chg r0 c51 d12
        have c0 := c0.join c51 (fun a h => .inr (n13 a h))
        obtain rfl := Option.some.inj hbe8
        exact ⟨x50, c0, r0, r11, d12, n13, hle8⟩
      ·
        replace hbe8 := Mi.ifF hb hbe8
        obtain rfl := Option.some.inj hbe8
        exact ⟨s9, c0, r0, r11, d12, n13, hle8⟩
    obtain ⟨s9, c0, r0, r11, d12, n13, hle8⟩ := hp
    obtain rfl := Mi.forN_end hle8
    obtain rfl := Option.some.inj hm
    exact hQ _ _ _ c0 r11 n13 
abbrev s_l_around : Stmt := topS 34
abbrev N_l_around : List Str := ["_law_chart", "_law_sea_here", "_law_place", "_law_due", "_law_told", "_law_again", "_law_port"]
theorem sc_l_around : FnScope ["_law_chart", "_law_sea_here", "_law_place", "_law_due", "_law_told", "_law_again", "_law_port"] ["_law_chart", "_law_sea_here"] (defScope s_l_around) := ⟨rfl, rfl, rfl, by decide +kernel, rfl, by decide +kernel, by decide +kernel⟩
def sp_l_around (K : PySem.W.Frag) (C_Chart : Addr) : Sp := fun vs H Q _ => ∃ (v0 : V) (d0 : (Int × (List Int) × (List (Int × Int)) × (List Int) × (List Int) × (List (List Int)))) (v1 : V) (F1 : List Addr) (d1 : ((List Int) × (List (Int × Int)) × (List Int) × (List Int))) (r : Bool), vs = [v0, v1] ∧ (yObj C_Chart nm_Chart ty_Chart).rep K H [] v0 d0 ∧ (yTup (sCons (yLst yInt) (sCons (yLst (yTup (sCons yInt (sOne yInt)))) (sCons (yLst yInt) (sOne (yLst yInt)))))).rep K H F1 v1 d1 ∧ Mi.m_l_around d0 d1 = some r ∧ ∀ H', Chg ([]) H H' → Q (.bl r) H'
theorem ok_l_around (B : Bi mg) (CN : Cs K mg) (D : Dfn K mg "_law_around" s_l_around) {C_Chart : Addr} (T_Chart : Tx K mg C_Chart "Chart" nm_Chart) (M_Chart_neighbours : CalM P w K mg C_Chart "neighbours" ["self", "place"] 1 (sp_Chart_neighbours K C_Chart)) (M_Chart_is_harbour : CalM P w K mg C_Chart "is_harbour" ["self", "place"] 1 (sp_Chart_is_harbour K C_Chart)) (C_l_row : Cal P w K mg "_law_row" ["_law_told", "_law_due"] 2 (sp_l_row K)) (C_l_beside : Cal P w K mg "_law_beside" ["_law_sea_here", "_law_place"] 1 (sp_l_beside K)) : Cal P w K mg "_law_around" ["_law_chart", "_law_sea_here"] 3 (sp_l_around K C_Chart) := by
  obtain ⟨f, fd, F, g⟩ := D.ex
  refine ⟨f, fd, g, F.kp, bindsF F (fun _ _ _ _ _ _ us hl => match us, hl with | [_, _], _ => rfl), fun base => F.ok sc_l_around (fun vs H Q E h => ?_) (fun cdv A outer s H0 vs Q E hr h => ?_)⟩
  · obtain ⟨v0, d0, v1, F1, d1, r, rfl, r0, r1, hm, hQ⟩ := h; rfl
  ·
    obtain ⟨v0, d0, v1, F1, d1, r, rfl, r0, r1, hm, hQ⟩ := h
    obtain ⟨fM_Chart_is_harbour, fdM_Chart_is_harbour, hM_Chart_is_harbour, bM_Chart_is_harbour, OM_Chart_is_harbour⟩ := M_Chart_is_harbour.ex
    obtain ⟨fM_Chart_neighbours, fdM_Chart_neighbours, hM_Chart_neighbours, bM_Chart_neighbours, OM_Chart_neighbours⟩ := M_Chart_neighbours.ex
    refine ⟨_, pss_cons (ps_for PassesOwn.never rfl (pi_range1 (by rfl) B.range (pa_cons (pe_callB (cl_len (K := K)) (by rfl) B.len PySem.boot_len (pa_cons (pe_ix (ix_t (K := K)) (pv 1) pe_int (fun _ _ => rfl)) pa_nil)) pa_nil)) (pg_name (i := 2) sc_l_around.nd rfl (.inl rfl)) (pss_cons (ps_set (i := 3) sc_l_around.nd rfl (.inl rfl) (pe_cc C_l_beside hr (pa_cons (pv 1) (pa_cons (pv 2) pa_nil))))
      (pss_cons (ps_set (i := 4) sc_l_around.nd rfl (.inl rfl) (pe_meth (pv 0) T_Chart.cls hM_Chart_neighbours (OM_Chart_neighbours base) (hr.mono (by decide)) (fun s us _ hl => by rw [List.append_nil] at hl ⊢; exact bM_Chart_neighbours s us hl) .nil pass0 (pa_cons (pv 2) pa_nil)))
      (pss_cons (ps_set (i := 5) sc_l_around.nd rfl (.inl rfl) (pe_meth (pv 0) T_Chart.cls hM_Chart_neighbours (OM_Chart_neighbours base) (hr.mono (by decide)) (fun s us _ hl => by rw [List.append_nil] at hl ⊢; exact bM_Chart_neighbours s us hl) .nil pass0 (pa_cons (pv 2) pa_nil)))
      (pss_cons (ps_if (PW.pt (pw_or (pt_not (pt_val (pe_callB (cl_isi (K := K)) (by rfl) B.isinstance (by decide +kernel) (pa_cons (pv 4) (pa_cons (pe_bltn (v := .ty "list") (by rfl) B.list (by decide +kernel) rfl) pa_nil))))) (pw_or1 (pt_not (pt_val (pe_cc C_l_row hr (pa_cons (pe_callTy (cl_tuple (K := K)) (by rfl) B.tuple (by decide +kernel) (pa_cons (pv 4) pa_nil)) (pa_cons (pv 3) pa_nil)))))))) (pss_cons (ps_ret pe_bl) pss_nil) (pss_nil))
      (pss_cons (ps_expr (pe_bm PySem.F.plainAttrs_list PySem.F.slot_list_append PySem.F.type_list_append mt_append (pv 4) (pa_cons pe_int pa_nil)))
      (pss_cons (ps_if (PW.pt (pw_or (pt_not (pt_val (pe_callB (cl_isi (K := K)) (by rfl) B.isinstance (by decide +kernel) (pa_cons (pv 5) (pa_cons (pe_bltn (v := .ty "list") (by rfl) B.list (by decide +kernel) rfl) pa_nil))))) (pw_or1 (pt_not (pt_val (pe_cc C_l_row hr (pa_cons (pe_callTy (cl_tuple (K := K)) (by rfl) B.tuple (by decide +kernel) (pa_cons (pv 5) pa_nil)) (pa_cons (pv 3) pa_nil)))))))) (pss_cons (ps_ret pe_bl) pss_nil) (pss_nil))
      (pss_cons (ps_expr (pe_bm0 PySem.F.plainAttrs_list PySem.F.slot_list_clear PySem.F.type_list_clear mt_clear (pv 5)))
      (pss_cons (ps_set (i := 4) sc_l_around.nd rfl (.inl rfl) (pe_meth (pv 0) T_Chart.cls hM_Chart_neighbours (OM_Chart_neighbours base) (hr.mono (by decide)) (fun s us _ hl => by rw [List.append_nil] at hl ⊢; exact bM_Chart_neighbours s us hl) .nil pass0 (pa_cons (pv 2) pa_nil)))
      (pss_cons (ps_if (PW.pt (pw_or (pt_not (pt_val (pe_callB (cl_isi (K := K)) (by rfl) B.isinstance (by decide +kernel) (pa_cons (pv 4) (pa_cons (pe_bltn (v := .ty "list") (by rfl) B.list (by decide +kernel) rfl) pa_nil))))) (pw_or1 (pt_not (pt_val (pe_cc C_l_row hr (pa_cons (pe_callTy (cl_tuple (K := K)) (by rfl) B.tuple (by decide +kernel) (pa_cons (pv 4) pa_nil)) (pa_cons (pv 3) pa_nil)))))))) (pss_cons (ps_ret pe_bl) pss_nil) (pss_nil))
      (pss_cons (ps_set (i := 6) sc_l_around.nd rfl (.inl rfl) (pe_meth (pv 0) T_Chart.cls hM_Chart_is_harbour (OM_Chart_is_harbour base) (hr.mono (by decide)) (fun s us _ hl => by rw [List.append_nil] at hl ⊢; exact bM_Chart_is_harbour s us hl) .nil pass0 (pa_cons (pv 2) pa_nil)))
      (pss_cons (ps_if (PW.pt (pw_or (pt_not (pt_val (pe_callB (cl_isi (K := K)) (by rfl) B.isinstance (by decide +kernel) (pa_cons (pv 6) (pa_cons (pe_bltn (v := .ty "bool") (by rfl) B.bool (by decide +kernel) rfl) pa_nil))))) (pw_or1 (pt_cmpR op_ne (pv 6) (pe_cmpR (op_in_q (K := K)) (pv 2) (pe_ix (ix_t (K := K)) (pv 1) pe_int (fun _ _ => rfl)) (by rfl)) (nomark _))))) (pss_cons (ps_ret pe_bl) pss_nil) (pss_nil))
      (pss_nil)))))))))))))
      (pss_cons (ps_ret pe_bl) pss_nil), ?_⟩
    have c0 : Chg ([] : List Addr) H0 H0 := Chg.refl H0
    unfold Mi.m_l_around at hm
    refine q_for ?_
    refine w_iRng1 ?_
    obtain ⟨u1, F2, r3, su4, kx5, ku6⟩ := itm_tup (n := 0) at0 r1
    refine w_args (va_cons (val_lenL r3 (ku6 (val_var rfl) val_c)) va_nil) ?_
    obtain ⟨g7, hg7, hm⟩ := Mi.bnd hm
    obtain ⟨e8, he8, hm⟩ := Mi.bnd hm
    refine l_rng1 hg7 (fun i σ' H' => ∃ (s9 : Unit) (y10 : Option V) (y11 : Option V) (y12 : Option V) (y13 : Option V) (y14 : Option V), σ' = [some v0, some v1, y10, y11, y12, y13, y14] ∧ Chg ([] : List Addr) H0 H' ∧ (yObj C_Chart nm_Chart ty_Chart).rep K H' [] v0 d0 ∧ (yTup (sCons (yLst yInt) (sCons (yLst (yTup (sCons yInt (sOne yInt)))) (sCons (yLst yInt) (sOne (yLst yInt)))))).rep K H' F1 v1 d1 ∧ Mi.forR (Mi.m_l_around_b1 d0 d1) s9 (List.drop i g7) = some e8) ⟨(), none, none, none, none, none, rfl, c0, r0, r1, he8⟩ (fun i17 x16 σ' H' hx15 hp => ?_) (fun σ' H' hp => ?_)
    ·
      obtain ⟨s9, y10, y11, y12, y13, y14, rfl, c0, r0, r1, hle8⟩ := hp
      obtain ⟨o18, hbe8, hore8⟩ := Mi.forR_go hle8 hx15
      unfold Mi.m_l_around_b1 at hbe8
      refine g_name (σ' := [some v0, some v1, some (.int x16), y11, y12, y13, y14]) rfl ?_
      refine q_asg ?_
      refine w_call ?_
      refine w_args (va_cons (val_var rfl) (va_cons (val_var rfl) va_nil)) ?_
      obtain ⟨q19, hq19, hbe8⟩ := Mi.bnd hbe8
      refine ⟨v1, F1, d1, x16, q19, rfl, r1, hq19, fun v22 H21 F24 c20 r23 fr25  => ?_⟩
      have d26 : Dj F1 F24 := Ty.fresh r1 fr25
      have n27 : ∀ a ∈ F24, H0 a = none := fun a h => c0.dom a (fr25 a h)
      have r0 := Ty.fz r0 c20
      have r1 := Ty.ex r1 c20
      have c0 := c0.trans c20.none
      refine g_name (σ' := [some v0, some v1, some (.int x16), some v22, y12, y13, y14]) rfl ?_
      refine q_asg ?_
      refine w_meth ?_
      refine c_val (val_var rfl) ?_
      refine meth_obj r0 (by decide +kernel) ?_
      refine w_args (va_cons (val_var rfl) va_nil) ?_
      obtain ⟨q28, hq28, hbe8⟩ := Mi.bnd hbe8
      refine ⟨v0, d0, x16, q28, rfl, r0, hq28, fun v31 H30 F33 c29 r32 fr34  => ?_⟩
      have d35 : Dj F1 F33 := Ty.fresh r1 fr34
      have d36 : Dj F24 F33 := Ty.fresh r23 fr34
      have n37 : ∀ a ∈ F33, H0 a = none := fun a h => c0.dom a (fr34 a h)
      have r0 := Ty.fz r0 c29
      have r1 := Ty.ex r1 c29
      have r23 := Ty.ex r23 c29
      have c0 := c0.trans c29.none
      refine g_name (σ' := [some v0, some v1, some (.int x16), some v22, some v31, y13, y14]) rfl ?_
      refine q_asg ?_
      refine w_meth ?_
      refine c_val (val_var rfl) ?_
      refine meth_obj r0 (by decide +kernel) ?_
      refine w_args (va_cons (val_var rfl) va_nil) ?_
      obtain ⟨q38, hq38, hbe8⟩ := Mi.bnd hbe8
      refine ⟨v0, d0, x16, q38, rfl, r0, hq38, fun v41 H40 F43 c39 r42 fr44  => ?_⟩
      have d45 : Dj F1 F43 := Ty.fresh r1 fr44
      have d46 : Dj F24 F43 := Ty.fresh r23 fr44
      have d47 : Dj F33 F43 := Ty.fresh r32 fr44
      have n48 : ∀ a ∈ F43, H0 a = none := fun a h => c0.dom a (fr44 a h)
      have r0 := Ty.fz r0 c39
      have r1 := Ty.ex r1 c39
      have r23 := Ty.ex r23 c39
      have r32 := Ty.ex r32 c39
      have c0 := c0.trans c39.none
      refine g_name (σ' := [some v0, some v1, some (.int x16), some v22, some v31, some v41, y14]) rfl ?_
      refine q_ifS ?_
      obtain ⟨b49, hb49, hbe8⟩ := Mi.bnd hbe8
      refine j_tt b49 (R := fun H' => Chg ([] : List Addr) H0 H' ∧ (yObj C_Chart nm_Chart ty_Chart).rep K H' [] v0 d0 ∧ (yTup (sCons (yLst yInt) (sCons (yLst (yTup (sCons yInt (sOne yInt)))) (sCons (yLst yInt) (sOne (yLst yInt)))))).rep K H' F1 v1 d1 ∧ (yLst yInt).rep K H' F24 v22 q19 ∧ (yLst yInt).rep K H' F33 v31 q28 ∧ (yLst yInt).rep K H' F43 v41 q38) (fun Q' kq => ?_) (fun H' hj => ?_)
      ·
        refine w_or ?_
        refine c_ans (ans_N (ans_B (val_isi (val_var rfl) (ty_lst r32) (n := "list") (m := "list") (b := true) (by decide +kernel)))) ?_
        refine c_if (fun hb => ?_) (fun hb => ?_)
        ·
          replace hb49 := Mi.ifT hb hb49
          obtain rfl := Option.some.inj hb49
          exact kq _ ⟨c0, r0, r1, r23, r32, r42⟩
        replace hb49 := Mi.ifF hb hb49
        refine w_not ?_
        refine w_B ?_
        refine w_call ?_
        refine w_cons ?_
        refine w_cb ?_
        refine w_args (va_cons (val_var rfl) va_nil) ?_
        refine w_tupleL r32 fun v50 H51 c52 r53 => ?_
        have r0 := Ty.fz r0 c52
        have r1 := Ty.ex r1 c52
        have r23 := Ty.ex r23 c52
        have r32 := Ty.ex r32 c52
        have r42 := Ty.ex r42 c52
        have c0 := c0.trans c52.none
        refine w_cons ?_
        refine c_val (val_var rfl) ?_
        refine w_nil ?_
        obtain ⟨q54, hq54, hb49⟩ := Mi.bnd hb49
        refine Or.inl ⟨v50, q28, v22, F24, q19, q54, rfl, r53, r23, hq54, fun H56 c55  => ?_⟩
        have r0 := Ty.fz r0 c55
        have r1 := Ty.ex r1 c55
        have r23 := Ty.ex r23 c55
        have r32 := Ty.ex r32 c55
        have r42 := Ty.ex r42 c55
        have c0 := c0.trans c55.none
        refine ⟨_, rfl, ?_⟩
        obtain rfl := Option.some.inj hb49
        exact kq _ ⟨c0, r0, r1, r23, r32, r42⟩
      obtain ⟨c0, r0, r1, r23, r32, r42⟩ := hj
      refine c_if (fun hb => ?_) (fun hb => ?_)
      ·
        replace hbe8 := Mi.ifT hb hbe8
        refine q_ret ?_
        refine c_val val_c ?_
        obtain rfl := Option.some.inj hbe8
        obtain rfl := Mi.or_inl hore8
        obtain rfl := Option.some.inj (Mi.orR_inl hm)
        exact hQ _ c0 
      replace hbe8 := Mi.ifF hb hbe8
      refine w_fall ?_
      refine q_drop (w_bm (c_val (val_var rfl) ⟨tyv_lst r32, ?_⟩))
      refine w_args (va_cons val_c va_nil) ?_
      obtain ⟨x57, hx57, hbe8⟩ := Mi.bnd hbe8
      refine m_app r32 yInt_i hx57 fun H59 c58 r32 => ?_
      have r0 := Ty.fz r0 c58
      have r1 := Ty.chg r1 c58 d35
      have r23 := Ty.chg r23 c58 d36
      have r42 := Ty.chg r42 c58 d47.symm
      have c0 := c0.join c58 (fun a h => .inr (n37 a h))
      refine q_ifS ?_
      obtain ⟨b60, hb60, hbe8⟩ := Mi.bnd hbe8
      refine j_tt b60 (R := fun H' => Chg ([] : List Addr) H0 H' ∧ (yObj C_Chart nm_Chart ty_Chart).rep K H' [] v0 d0 ∧ (yTup (sCons (yLst yInt) (sCons (yLst (yTup (sCons yInt (sOne yInt)))) (sCons (yLst yInt) (sOne (yLst yInt)))))).rep K H' F1 v1 d1 ∧ (yLst yInt).rep K H' F24 v22 q19 ∧ (yLst yInt).rep K H' F33 v31 x57 ∧ (yLst yInt).rep K H' F43 v41 q38) (fun Q' kq => ?_) (fun H' hj => ?_)
      ·
        refine w_or ?_
        refine c_ans (ans_N (ans_B (val_isi (val_var rfl) (ty_lst r42) (n := "list") (m := "list") (b := true) (by decide +kernel)))) ?_
        refine c_if (fun hb => ?_) (fun hb => ?_)
        ·
          replace hb60 := Mi.ifT hb hb60
          obtain rfl := Option.some.inj hb60
          exact kq _ ⟨c0, r0, r1, r23, r32, r42⟩
        replace hb60 := Mi.ifF hb hb60
        refine w_not ?_
        refine w_B ?_
        refine w_call ?_
        refine w_cons ?_
        refine w_cb ?_
        refine w_args (va_cons (val_var rfl) va_nil) ?_
        refine w_tupleL r42 fun v61 H62 c63 r64 => ?_
        have r0 := Ty.fz r0 c63
        have r1 := Ty.ex r1 c63
        have r23 := Ty.ex r23 c63
        have r32 := Ty.ex r32 c63
        have r42 := Ty.ex r42 c63
        have c0 := c0.trans c63.none
        refine w_cons ?_
        refine c_val (val_var rfl) ?_
        refine w_nil ?_
        obtain ⟨q65, hq65, hb60⟩ := Mi.bnd hb60
        refine Or.inl ⟨v61, q38, v22, F24, q19, q65, rfl, r64, r23, hq65, fun H67 c66  => ?_⟩
        have r0 := Ty.fz r0 c66
        have r1 := Ty.ex r1 c66
        have r23 := Ty.ex r23 c66
        have r32 := Ty.ex r32 c66
        have r42 := Ty.ex r42 c66
        have c0 := c0.trans c66.none
        refine ⟨_, rfl, ?_⟩
        obtain rfl := Option.some.inj hb60
        exact kq _ ⟨c0, r0, r1, r23, r32, r42⟩
      obtain ⟨c0, r0, r1, r23, r32, r42⟩ := hj
      refine c_if (fun hb => ?_) (fun hb => ?_)
      ·
        replace hbe8 := Mi.ifT hb hbe8
        refine q_ret ?_
        refine c_val val_c ?_
        obtain rfl := Option.some.inj hbe8
        obtain rfl := Mi.or_inl hore8
        obtain rfl := Option.some.inj (Mi.orR_inl hm)
        exact hQ _ c0 
      replace hbe8 := Mi.ifF hb hbe8
      refine w_fall ?_
      refine q_drop (w_bm0 (c_val (val_var rfl) ⟨tyv_lst r42, ?_⟩))
      refine m_clear r42 fun H69 c68 r42 => ?_
      have r0 := Ty.fz r0 c68
      have r1 := Ty.chg r1 c68 d45
      have r23 := Ty.chg r23 c68 d46
      have r32 := Ty.chg r32 c68 d47
      have c0 := c0.join c68 (fun a h => .inr (n48 a h))
      refine q_asg ?_
      refine w_meth ?_
      refine c_val (val_var rfl) ?_
      refine meth_obj r0 (by decide +kernel) ?_
      refine w_args (va_cons (val_var rfl) va_nil) ?_
      obtain ⟨q70, hq70, hbe8⟩ := Mi.bnd hbe8
      refine ⟨v0, d0, x16, q70, rfl, r0, hq70, fun v73 H72 F75 c71 r74 fr76  => ?_⟩
      have d77 : Dj F1 F75 := Ty.fresh r1 fr76
      have d78 : Dj F24 F75 := Ty.fresh r23 fr76
      have d79 : Dj F33 F75 := Ty.fresh r32 fr76
      have d80 : Dj F43 F75 := Ty.fresh r42 fr76
      have n81 : ∀ a ∈ F75, H0 a = none := fun a h => c0.dom a (fr76 a h)
      have r0 := Ty.fz r0 c71
      have r1 := Ty.ex r1 c71
      have r23 := Ty.ex r23 c71
      have r32 := Ty.ex r32 c71
      have r42 := Ty.ex r42 c71
      have c0 := c0.trans c71.none
      refine g_name (σ' := [some v0, some v1, some (.int x16), some v22, some v73, some v41, y14]) rfl ?_
      refine q_ifS ?_
      obtain ⟨b82, hb82, hbe8⟩ := Mi.bnd hbe8
      refine j_tt b82 (R := fun H' => Chg ([] : List Addr) H0 H' ∧ (yObj C_Chart nm_Chart ty_Chart).rep K H' [] v0 d0 ∧ (yTup (sCons (yLst yInt) (sCons (yLst (yTup (sCons yInt (sOne yInt)))) (sCons (yLst yInt) (sOne (yLst yInt)))))).rep K H' F1 v1 d1 ∧ (yLst yInt).rep K H' F24 v22 q19 ∧ (yLst yInt).rep K H' F75 v73 q70 ∧ (yLst yInt).rep K H' F43 v41 ([] : (List Int))) (fun Q' kq => ?_) (fun H' hj => ?_)
      ·
        refine w_or ?_
        refine c_ans (ans_N (ans_B (val_isi (val_var rfl) (ty_lst r74) (n := "list") (m := "list") (b := true) (by decide +kernel)))) ?_
        refine c_if (fun hb => ?_) (fun hb => ?_)
        ·
          replace hb82 := Mi.ifT hb hb82
          obtain rfl := Option.some.inj hb82
          exact kq _ ⟨c0, r0, r1, r23, r74, r42⟩
        replace hb82 := Mi.ifF hb hb82
        refine w_not ?_
        refine w_B ?_
        refine w_call ?_
        refine w_cons ?_
        refine w_cb ?_
        refine w_args (va_cons (val_var rfl) va_nil) ?_
        refine w_tupleL r74 fun v83 H84 c85 r86 => ?_
        have r0 := Ty.fz r0 c85
        have r1 := Ty.ex r1 c85
        have r23 := Ty.ex r23 c85
        have r74 := Ty.ex r74 c85
        have r42 := Ty.ex r42 c85
        have c0 := c0.trans c85.none
        refine w_cons ?_
        refine c_val (val_var rfl) ?_
        refine w_nil ?_
        obtain ⟨q87, hq87, hb82⟩ := Mi.bnd hb82
        refine Or.inl ⟨v83, q70, v22, F24, q19, q87, rfl, r86, r23, hq87, fun H89 c88  => ?_⟩
        have r0 := Ty.fz r0 c88
        have r1 := Ty.ex r1 c88
        have r23 := Ty.ex r23 c88
        have r74 := Ty.ex r74 c88
        have r42 := Ty.ex r42 c88
        have c0 := c0.trans c88.none
        refine ⟨_, rfl, ?_⟩
        obtain rfl := Option.some.inj hb82
        exact kq _ ⟨c0, r0, r1, r23, r74, r42⟩
      obtain ⟨c0, r0, r1, r23, r74, r42⟩ := hj
      refine c_if (fun hb => ?_) (fun hb => ?_)
      ·
        replace hbe8 := Mi.ifT hb hbe8
        refine q_ret ?_
        refine c_val val_c ?_
        obtain rfl := Option.some.inj hbe8
        obtain rfl := Mi.or_inl hore8
        obtain rfl := Option.some.inj (Mi.orR_inl hm)
        exact hQ _ c0 
      replace hbe8 := Mi.ifF hb hbe8
      refine w_fall ?_
      refine q_asg ?_
      refine w_meth ?_
      refine c_val (val_var rfl) ?_
      refine meth_obj r0 (by decide +kernel) ?_
      refine w_args (va_cons (val_var rfl) va_nil) ?_
      obtain ⟨q90, hq90, hbe8⟩ := Mi.bnd hbe8
      refine ⟨v0, d0, x16, q90, rfl, r0, hq90, fun H92 c91  => ?_⟩
      have r0 := Ty.fz r0 c91
      have r1 := Ty.ex r1 c91
      have r23 := Ty.ex r23 c91
      have r74 := Ty.ex r74 c91
      have r42 := Ty.ex r42 c91
      have c0 := c0.trans c91.none
      refine g_name (σ' := [some v0, some v1, some (.int x16), some v22, some v73, some v41, some (.bl q90)]) rfl ?_
      obtain ⟨u94, F95, r96, su97, kx98, ku99⟩ := itm_tup (n := 3) (atS (atS (atS at1))) r1
      have d100 : Dj F95 F24 := Dj.sub (d26) su97
      have d101 : Dj F95 F75 := Dj.sub (d77) su97
      have d102 : Dj F95 F43 := Dj.sub (d45) su97
      refine q_if (ans_orB (ans_N (ans_B (val_isi (val_var rfl) ty_bl (n := "bool") (m := "bool") (b := true) (by decide +kernel)))) (fun _ => (ans_t (val_neB (val_var rfl) (val_inL r96 (val_var rfl) (ku99 (val_var rfl) val_c)))))) (fun hb => ?_) (fun hb => ?_)
      ·
        replace hbe8 := Mi.ifT hb hbe8
        refine q_ret ?_
        refine c_val val_c ?_
        obtain rfl := Option.some.inj hbe8
        obtain rfl := Mi.or_inl hore8
        obtain rfl := Option.some.inj (Mi.orR_inl hm)
        exact hQ _ c0 
      replace hbe8 := Mi.ifF hb hbe8
      refine w_fall ?_
      refine w_nextJ ?_
      obtain rfl := Option.some.inj hbe8
      replace hore8 := Mi.or_inr hore8
      exact ⟨_, (some (.int x16)), (some v22), (some v73), (some v41), (some (.bl q90)), rfl, c0, r0, r1, hore8⟩
    obtain ⟨s9, y10, y11, y12, y13, y14, rfl, c0, r0, r1, hle8⟩ := hp
    obtain rfl := Mi.forR_end hle8
    replace hm := Mi.orR_inr hm
    refine q_ret ?_
    refine c_val val_c ?_
    obtain rfl := Option.some.inj hm
    exact hQ _ c0 
abbrev s_law : Stmt := topS 35
abbrev N_law : List Str := ["_law_script", "_law_wide_here", "_law_other", "_law_flows_here", "_law_hand_here", "_law_sea_here", "_law_rows", "_law_ports", "_law_handed", "_law_moored", "_law_chart", "_law_bare", "_law_twin"]
theorem sc_law : FnScope ["_law_script", "_law_wide_here", "_law_other", "_law_flows_here", "_law_hand_here", "_law_sea_here", "_law_rows", "_law_ports", "_law_handed", "_law_moored", "_law_chart", "_law_bare", "_law_twin"] ["_law_script"] (defScope s_law) := ⟨rfl, rfl, rfl, by decide +kernel, rfl, by decide +kernel, by decide +kernel⟩
def sp_law (K : PySem.W.Frag) : Sp := fun vs H Q _ => ∃ (v0 : V) (d0 : (List Int)) (r : Bool), vs = [v0] ∧ yScr.rep K H [] v0 d0 ∧ Mi.m_law d0 = some r ∧ ∀ H', Chg ([]) H H' → Q (.bl r) H'
theorem ok_law (B : Bi mg) (CN : Cs K mg) (D : Dfn K mg "law" s_law) {C_Chart : Addr} (T_Chart : Tx K mg C_Chart "Chart" nm_Chart) (I_Chart : CalI P w K mg C_Chart "Chart.__init__" s_Chart_init (kw_Chart K) ["self", "depths", "lanes", "tide", "harbours"] 3 (sp_Chart_init K C_Chart)) (C_l_hand : Cal P w K mg "_law_hand" ["_law_script", "_law_k"] 1 (sp_l_hand K)) (C_l_wide : Cal P w K mg "_law_wide" ["_law_hand_here"] 4 (sp_l_wide K)) (C_l_flows : Cal P w K mg "_law_flows" ["_law_hand_here", "_law_sea_here"] 2 (sp_l_flows K)) (C_l_thinned : Cal P w K mg "_law_thinned" ["_law_hand_here", "_law_joins", "_law_most"] 2 (sp_l_thinned K)) (C_l_flipped : Cal P w K mg "_law_flipped" ["_law_hand_here", "_law_joins"] 2 (sp_l_flipped K)) (C_l_stirred : Cal P w K mg "_law_stirred" ["_law_hand_here", "_law_rows"] 2 (sp_l_stirred K)) (C_l_parts : Cal P w K mg "_law_parts" ["_law_chart", "_law_sea_here"] 3 (sp_l_parts K C_Chart)) (C_l_around : Cal P w K mg "_law_around" ["_law_chart", "_law_sea_here"] 3 (sp_l_around K C_Chart)) : Cal P w K mg "law" ["_law_script"] 5 (sp_law K) := by
  obtain ⟨f, fd, F, g⟩ := D.ex
  refine ⟨f, fd, g, F.kp, bindsF F (fun _ _ _ _ _ _ us hl => match us, hl with | [_], _ => rfl), fun base => F.ok sc_law (fun vs H Q E h => ?_) (fun cdv A outer s H0 vs Q E hr h => ?_)⟩
  · obtain ⟨v0, d0, r, rfl, r0, hm, hQ⟩ := h; rfl
  ·
    obtain ⟨v0, d0, r, rfl, r0, hm, hQ⟩ := h
    obtain ⟨fI_Chart, fdI_Chart, MI_Chart, FI_Chart, OI_Chart⟩ := I_Chart.ex
    obtain ⟨mv_kb_Chart_2_tide, kb_Chart_2_tide⟩ := FunD.kbinds0 (ps := ["self", "depths", "lanes", "tide", "harbours"]) FI_Chart 3 ["tide"] [("harbours", .ref (kwdAt ("Chart", some "__init__") "harbours" K))] (fun us mv ws => permG [0, 1, 2, 4, 3] us mv ws) (by intro z; cases z) (fun q hq => by simp only [List.mem_cons, List.not_mem_nil, or_false] at hq ⊢; rcases hq with rfl <;> simp) (fun r1 r2 r3 => permG_rel _ r1 r2 r3) (fun _ _ _ _ _ _ us mv ws h1 h2 h3 => match us, mv, ws, h1, h2, h3 with | [_, _, _], [_], [_], _, _, _ => ⟨_, _, _, _, _, _, rfl, rfl, rfl⟩)
    obtain ⟨mv_kb_Chart_2_tide_harbours, kb_Chart_2_tide_harbours⟩ := FunD.kbinds0 (ps := ["self", "depths", "lanes", "tide", "harbours"]) FI_Chart 3 ["tide", "harbours"] [] (fun us mv ws => permG [0, 1, 2, 3, 4] us mv ws) (by intro z; cases z) (fun q hq => nomatch hq) (fun r1 r2 r3 => permG_rel _ r1 r2 r3) (fun _ _ _ _ _ _ us mv ws h1 h2 h3 => match us, mv, ws, h1, h2, h3 with | [_, _, _], [], [_, _], _, _, _ => rfl)
    refine ⟨_, pss_cons (ps_set (i := 1) sc_law.nd rfl (.inl rfl) (pe_cc C_l_wide hr (pa_cons (pe_cc C_l_hand hr (pa_cons (pv 0) (pa_cons pe_int pa_nil))) pa_nil)))
      (pss_cons (ps_set (i := 2) sc_law.nd rfl (.inl rfl) (pe_cc C_l_wide hr (pa_cons (pe_cc C_l_hand hr (pa_cons (pv 0) (pa_cons pe_int pa_nil))) pa_nil)))
      (pss_cons (ps_set (i := 3) sc_law.nd rfl (.inl rfl) (pe_cc C_l_flows hr (pa_cons (pe_cc C_l_hand hr (pa_cons (pv 0) (pa_cons pe_int pa_nil))) (pa_cons (pv 1) pa_nil))))
      (pss_cons (ps_set (i := 4) sc_law.nd rfl (.inl rfl) (pe_cc C_l_hand hr (pa_cons (pv 0) (pa_cons pe_int pa_nil))))
      (pss_cons (ps_set (i := 5) sc_law.nd rfl (.inl rfl) (pe_tup (pa_cons (pe_ix (ix_t (K := K)) (pv 1) pe_int (fun _ _ => rfl)) (pa_cons (pe_cc C_l_thinned hr (pa_cons (pv 4) (pa_cons (pe_ix (ix_t (K := K)) (pv 1) pe_int (fun _ _ => rfl)) (pa_cons pe_int pa_nil)))) (pa_cons (pv 3) (pa_cons (pe_ix (ix_t (K := K)) (pv 1) pe_int (fun _ _ => rfl)) pa_nil))))))
      (pss_cons (ps_set (i := 6) sc_law.nd rfl (.inl rfl) (pe_cc C_l_stirred hr (pa_cons (pv 4) (pa_cons (pe_cc C_l_flipped hr (pa_cons (pv 4) (pa_cons (pe_ix (ix_t (K := K)) (pv 5) pe_int (fun _ _ => rfl)) pa_nil))) pa_nil))))
      (pss_cons (ps_set (i := 7) sc_law.nd rfl (.inl rfl) (pe_cc C_l_stirred hr (pa_cons (pv 4) (pa_cons (pe_ix (ix_t (K := K)) (pv 5) pe_int (fun _ _ => rfl)) pa_nil))))
      (pss_cons (ps_set (i := 8) sc_law.nd rfl (.inl rfl) (pe_callTy (cl_list (K := K)) (by rfl) B.list (by decide +kernel) (pa_cons (pv 6) pa_nil)))
      (pss_cons (ps_set (i := 9) sc_law.nd rfl (.inl rfl) (pe_callTy (cl_list (K := K)) (by rfl) B.list (by decide +kernel) (pa_cons (pv 7) pa_nil)))
      (pss_cons (ps_set (i := 10) sc_law.nd rfl (.inl rfl) (pe_makeK MI_Chart (OI_Chart base) (hr.mono (by decide)) (by rfl) T_Chart.mgC kb_Chart_2_tide_harbours pass0 (pa_cons (pe_callTy (cl_list (K := K)) (by rfl) B.list (by decide +kernel) (pa_cons (pe_ix (ix_t (K := K)) (pv 5) pe_int (fun _ _ => rfl)) pa_nil)) (pa_cons (pv 8) pa_nil)) (pk_cons (pe_callTy (cl_list (K := K)) (by rfl) B.list (by decide +kernel) (pa_cons (pe_ix (ix_t (K := K)) (pv 5) pe_int (fun _ _ => rfl)) pa_nil)) (pk_cons (pv 9) pk_nil))))
      (pss_cons (ps_set (i := 11) sc_law.nd rfl (.inl rfl) (pe_tup (pa_cons (pe_ix (ix_t (K := K)) (pv 2) pe_int (fun _ _ => rfl)) (pa_cons (pe_ix (ix_t (K := K)) (pv 2) pe_int (fun _ _ => rfl)) (pa_cons (pe_ix (ix_t (K := K)) (pv 2) pe_int (fun _ _ => rfl)) (pa_cons (pe_lst pa_nil) pa_nil))))))
      (pss_cons (ps_set (i := 12) sc_law.nd rfl (.inl rfl) (pe_makeK MI_Chart (OI_Chart base) (hr.mono (by decide)) (by rfl) T_Chart.mgC kb_Chart_2_tide pass0 (pa_cons (pe_callTy (cl_tuple (K := K)) (by rfl) B.tuple (by decide +kernel) (pa_cons (pe_ix (ix_t (K := K)) (pv 11) pe_int (fun _ _ => rfl)) pa_nil)) (pa_cons (pe_callTy (cl_tuple (K := K)) (by rfl) B.tuple (by decide +kernel) (pa_cons (pe_ix (ix_t (K := K)) (pv 11) pe_int (fun _ _ => rfl)) pa_nil)) pa_nil)) (pk_cons (pe_callTy (cl_tuple (K := K)) (by rfl) B.tuple (by decide +kernel) (pa_cons (pe_ix (ix_t (K := K)) (pv 11) pe_int (fun _ _ => rfl)) pa_nil)) pk_nil)))
      (pss_cons (ps_if (PW.pt (pw_or (pt_not (pt_val (pe_cc C_l_parts hr (pa_cons (pv 10) (pa_cons (pv 5) pa_nil))))) (pw_or1 (pt_not (pt_val (pe_cc C_l_parts hr (pa_cons (pv 12) (pa_cons (pv 11) pa_nil)))))))) (pss_cons (ps_ret pe_bl) pss_nil) (pss_nil))
      (pss_cons (ps_if (PW.pt (pw_or (pt_not (pt_val (pe_cc C_l_around hr (pa_cons (pv 10) (pa_cons (pv 5) pa_nil))))) (pw_or1 (pt_not (pt_val (pe_cc C_l_around hr (pa_cons (pv 12) (pa_cons (pv 11) pa_nil)))))))) (pss_cons (ps_ret pe_bl) pss_nil) (pss_nil))
      (pss_cons (ps_if (PW.pt (pw_or (pt_cmpR (op_ne_d hr.units) (pv 8) (pv 6) (nomark _)) (pw_or1 (pt_cmpR (op_ne_d hr.units) (pv 9) (pv 7) (nomark _))))) (pss_cons (ps_ret pe_bl) pss_nil) (pss_nil))
      (pss_cons (ps_expr (pe_bm0 PySem.F.plainAttrs_list PySem.F.slot_list_clear PySem.F.type_list_clear mt_clear (pv 8)))
      (pss_cons (ps_expr (pe_bm0 PySem.F.plainAttrs_list PySem.F.slot_list_clear PySem.F.type_list_clear mt_clear (pv 9)))
      (pss_cons (ps_ret (pe_and (pe_cc C_l_around hr (pa_cons (pv 10) (pa_cons (pv 5) pa_nil))) (pe_and (pe_cc C_l_parts hr (pa_cons (pv 10) (pa_cons (pv 5) pa_nil))) (pe_one (pe_cc C_l_around hr (pa_cons (pv 12) (pa_cons (pv 11) pa_nil))))))) pss_nil))))))))))))))))), ?_⟩
    have c0 : Chg ([] : List Addr) H0 H0 := Chg.refl H0
    unfold Mi.m_law at hm
    refine q_asg ?_
    refine w_call ?_
    refine w_cons ?_
    refine w_call ?_
    refine w_args (va_cons (val_var rfl) (va_cons val_c va_nil)) ?_
    obtain ⟨q1, hq1, hm⟩ := Mi.bnd hm
    refine ⟨v0, d0, (0 : Int), q1, rfl, r0, hq1, fun v4 H3 F6 c2 r5 fr7  => ?_⟩
    have n8 : ∀ a ∈ F6, H0 a = none := fun a h => c0.dom a (fr7 a h)
    have r0 := Ty.fz r0 c2
    have c0 := c0.trans c2.none
    refine w_nil ?_
    obtain ⟨q9, hq9, hm⟩ := Mi.bnd hm
    have r5_old := r5
    refine ⟨v4, F6, q1, q9, rfl, r5, hq9, fun v12 H11 F14 c10 r13 fr15 r5 => ?_⟩
    have n16 : ∀ a ∈ F14, H0 a = none := fun a h => c0.dom a (fr15 a h)
    have r0 := Ty.fz r0 c10
    have c0 := c0.join c10 (fun a h => .inr (n8 a h))
    refine g_name (σ' := [some v0, some v12, none, none, none, none, none, none, none, none, none, none, none]) rfl ?_
    refine q_asg ?_
    refine w_call ?_
    refine w_cons ?_
    refine w_call ?_
    refine w_args (va_cons (val_var rfl) (va_cons val_c va_nil)) ?_
    obtain ⟨q17, hq17, hm⟩ := Mi.bnd hm
    refine ⟨v0, d0, (1 : Int), q17, rfl, r0, hq17, fun v20 H19 F22 c18 r21 fr23  => ?_⟩
    have d24 : Dj F14 F22 := Ty.fresh r13 fr23
    have n25 : ∀ a ∈ F22, H0 a = none := fun a h => c0.dom a (fr23 a h)
    have r0 := Ty.fz r0 c18
    have r13 := Ty.ex r13 c18
    have c0 := c0.trans c18.none
    refine w_nil ?_
    obtain ⟨q26, hq26, hm⟩ := Mi.bnd hm
    have r21_old := r21
    refine ⟨v20, F22, q17, q26, rfl, r21, hq26, fun v29 H28 F31 c27 r30 fr32 r21 => ?_⟩
    have d33 : Dj F14 F31 := Ty.fresh r13 fr32
    have n34 : ∀ a ∈ F31, H0 a = none := fun a h => c0.dom a (fr32 a h)
    have r0 := Ty.fz r0 c27
    have r13 := Ty.chg r13 c27 d24
    have c0 := c0.join c27 (fun a h => .inr (n25 a h))
    refine g_name (σ' := [some v0, some v12, some v29, none, none, none, none, none, none, none, none, none, none]) rfl ?_
    refine q_asg ?_
    refine w_call ?_
    refine w_cons ?_
    refine w_call ?_
    refine w_args (va_cons (val_var rfl) (va_cons val_c va_nil)) ?_
    obtain ⟨q35, hq35, hm⟩ := Mi.bnd hm
    refine ⟨v0, d0, (2 : Int), q35, rfl, r0, hq35, fun v38 H37 F40 c36 r39 fr41  => ?_⟩
    have d42 : Dj F14 F40 := Ty.fresh r13 fr41
    have d43 : Dj F31 F40 := Ty.fresh r30 fr41
    have n44 : ∀ a ∈ F40, H0 a = none := fun a h => c0.dom a (fr41 a h)
    have r0 := Ty.fz r0 c36
    have r13 := Ty.ex r13 c36
    have r30 := Ty.ex r30 c36
    have c0 := c0.trans c36.none
    refine w_cons ?_
    refine c_val (val_var rfl) ?_
    refine w_nil ?_
    obtain ⟨q45, hq45, hm⟩ := Mi.bnd hm
    have r39_old := r39
    refine ⟨v38, F40, q35, v12, F14, q9.1, q45, rfl, r39, r13, d42.symm, hq45, fun v48 H47 F50 c46 r49 fr51 r39 => ?_⟩
    have d52 : Dj F14 F50 := Ty.fresh r13 fr51
    have d53 : Dj F31 F50 := Ty.fresh r30 fr51
    have n54 : ∀ a ∈ F50, H0 a = none := fun a h => c0.dom a (fr51 a h)
    have r0 := Ty.fz r0 c46
    have r13 := Ty.chg r13 c46 d42
    have r30 := Ty.chg r30 c46 d43
    have c0 := c0.join c46 (fun a h => .inr (n44 a h))
    refine g_name (σ' := [some v0, some v12, some v29, some v48, none, none, none, none, none, none, none, none, none]) rfl ?_
    refine q_asg ?_
    refine w_call ?_
    refine w_args (va_cons (val_var rfl) (va_cons val_c va_nil)) ?_
    obtain ⟨q55, hq55, hm⟩ := Mi.bnd hm
    refine ⟨v0, d0, (7 : Int), q55, rfl, r0, hq55, fun v58 H57 F60 c56 r59 fr61  => ?_⟩
    have d62 : Dj F14 F60 := Ty.fresh r13 fr61
    have d63 : Dj F31 F60 := Ty.fresh r30 fr61
    have d64 : Dj F50 F60 := Ty.fresh r49 fr61
    have n65 : ∀ a ∈ F60, H0 a = none := fun a h => c0.dom a (fr61 a h)
    have r0 := Ty.fz r0 c56
    have r13 := Ty.ex r13 c56
    have r30 := Ty.ex r30 c56
    have r49 := Ty.ex r49 c56
    have c0 := c0.trans c56.none
    refine g_name (σ' := [some v0, some v12, some v29, some v48, some v58, none, none, none, none, none, none, none, none]) rfl ?_
    refine q_asg ?_
    refine w_tup ?_
    refine w_cons ?_
    obtain ⟨u66, F67, r68, su69, kx70, ku71⟩ := itm_tup (n := 0) at0 r13
    have d72 : Dj F67 F31 := Dj.sub (d33) su69
    have d73 : Dj F67 F50 := Dj.sub (d52) su69
    have d74 : Dj F67 F60 := Dj.sub (d62) su69
    have n75 : ∀ a ∈ F67, H0 a = none := fun a h => n16 a (su69 a h)
    refine c_val (ku71 (val_var rfl) val_c) ?_
    refine w_cons ?_
    refine w_call ?_
    obtain ⟨u76, F77, r78, su79, kx80, ku81⟩ := itm_tup (n := 1) (atS at0) r13
    have d82 : Dj F77 F31 := Dj.sub (d33) su79
    have d83 : Dj F77 F50 := Dj.sub (d52) su79
    have d84 : Dj F77 F60 := Dj.sub (d62) su79
    have n85 : ∀ a ∈ F77, H0 a = none := fun a h => n16 a (su79 a h)
    refine w_args (va_cons (val_var rfl) (va_cons (ku81 (val_var rfl) val_c) (va_cons val_c va_nil))) ?_
    obtain ⟨q86, hq86, hm⟩ := Mi.bnd hm
    have r59_old := r59
    refine ⟨v58, F60, q55, u76, F77, q9.1.2.1, (4 : Int), q86, rfl, r59, r78, d84.symm, hq86, fun v89 H88 F91 c87 r90 fr92 r59 => ?_⟩
    have d93 : Dj F14 F91 := Ty.fresh r13 fr92
    have d94 : Dj F31 F91 := Ty.fresh r30 fr92
    have d95 : Dj F50 F91 := Ty.fresh r49 fr92
    have d96 : Dj F60 F91 := Ty.fresh r59_old fr92
    have d97 : Dj F67 F91 := Ty.fresh r68 fr92
    have n98 : ∀ a ∈ F91, H0 a = none := fun a h => c0.dom a (fr92 a h)
    have r0 := Ty.fz r0 c87
    have r13 := Ty.chg r13 c87 d62
    have r30 := Ty.chg r30 c87 d63
    have r49 := Ty.chg r49 c87 d64
    have r68 := Ty.chg r68 c87 d74
    have c0 := c0.join c87 (fun a h => .inr (n65 a h))
    refine w_cons ?_
    refine c_val (val_var rfl) ?_
    refine w_cons ?_
    obtain ⟨u99, F100, r101, su102, kx103, ku104⟩ := itm_tup (n := 3) (atS (atS (atS at1))) r13
    have d105 : Dj F100 F31 := Dj.sub (d33) su102
    have d106 : Dj F100 F50 := Dj.sub (d52) su102
    have d107 : Dj F100 F60 := Dj.sub (d62) su102
    have d108 : Dj F100 F91 := Dj.sub (d93) su102
    have n109 : ∀ a ∈ F100, H0 a = none := fun a h => n16 a (su102 a h)
    refine c_val (ku104 (val_var rfl) val_c) ?_
    refine w_nil ?_
    refine e_tup (K := K) (ty := (sCons (yLst yInt) (sCons (yLst (yTup (sCons yInt (sOne yInt)))) (sCons (yLst yInt) (sOne (yLst yInt)))))) (F := (F67 ++ (F91 ++ (F50 ++ F100)))) (d := (q9.1.1, q86.1, q45.1, q9.1.2.2.2)) (by exact Nat.le_of_ble_eq_true rfl) ⟨_, _, _, _, rfl, rfl, r68, ⟨_, _, _, _, rfl, rfl, r90, ⟨_, _, _, _, rfl, rfl, r49, ⟨_, rfl, r101⟩⟩⟩⟩ fun p110 H114 np113 c111 r112 => ?_
    have r0 := Ty.fz r0 c111
    have r13 := Ty.ex r13 c111
    have r30 := Ty.ex r30 c111
    have r49 := Ty.ex r49 c111
    have r59 := Ty.ex r59 c111
    have r68 := Ty.ex r68 c111
    have r90 := Ty.ex r90 c111
    have r101 := Ty.ex r101 c111
    have c0 := c0.trans c111.none
    have d115 : Dj (F67 ++ (F91 ++ (F50 ++ F100))) F31 := (Dj.app (d72) ((Dj.app (d94.symm) ((Dj.app (d53.symm) (d105))))))
    have d116 : Dj (F67 ++ (F91 ++ (F50 ++ F100))) F60 := (Dj.app (d74) ((Dj.app (d96.symm) ((Dj.app (d64) (d107))))))
    refine g_name (σ' := [some v0, some v12, some v29, some v48, some v58, some (.ref p110), none, none, none, none, none, none, none]) rfl ?_
    refine q_asg ?_
    refine w_call ?_
    refine w_cons ?_
    refine c_val (val_var rfl) ?_
    refine w_cons ?_
    refine w_call ?_
    obtain ⟨u117, F118, r119, su120, kx121, ku122⟩ := itm_tup (n := 1) (atS at0) r112
    have d123 : Dj F118 F31 := Dj.sub (d115) su120
    have d124 : Dj F118 F60 := Dj.sub (d116) su120
    have n125 : ∀ a ∈ F118, H0 a = none := fun a h => (app_fresh n75 (app_fresh n98 (app_fresh n54 n109))) a (su120 a h)
    refine w_args (va_cons (val_var rfl) (va_cons (ku122 (val_var rfl) val_c) va_nil)) ?_
    obtain ⟨q126, hq126, hm⟩ := Mi.bnd hm
    have r59_old := r59
    refine ⟨v58, F60, q86.2, u117, F118, (q9.1.1, q86.1, q45.1, q9.1.2.2.2).2.1, q126, rfl, r59, r119, d124.symm, hq126, fun v129 H128 F131 c127 r130 fr132 r59 => ?_⟩
    have d133 : Dj F14 F131 := Ty.fresh r13 fr132
    have d134 : Dj F31 F131 := Ty.fresh r30 fr132
    have d135 : Dj F50 F131 := Ty.fresh r49 fr132
    have d136 : Dj F60 F131 := Ty.fresh r59_old fr132
    have d137 : Dj (F67 ++ (F91 ++ (F50 ++ F100))) F131 := Ty.fresh r112 fr132
    have n138 : ∀ a ∈ F131, H0 a = none := fun a h => c0.dom a (fr132 a h)
    have r0 := Ty.fz r0 c127
    have r13 := Ty.chg r13 c127 d62
    have r30 := Ty.chg r30 c127 d63
    have r49 := Ty.chg r49 c127 d64
    have r112 := Ty.chg r112 c127 d116
    have c0 := c0.join c127 (fun a h => .inr (n65 a h))
    refine w_nil ?_
    obtain ⟨q139, hq139, hm⟩ := Mi.bnd hm
    have r59_old := r59
    refine Or.inr (⟨v58, F60, q126.2, v129, F131, q126.1, q139, rfl, r59, r130, d136, hq139, fun v142 H141 F144 c140 r143 fr145 r59 => ?_⟩)
    have d146 : Dj F14 F144 := Ty.fresh r13 fr145
    have d147 : Dj F31 F144 := Ty.fresh r30 fr145
    have d148 : Dj F50 F144 := Ty.fresh r49 fr145
    have d149 : Dj F60 F144 := Ty.fresh r59_old fr145
    have d150 : Dj (F67 ++ (F91 ++ (F50 ++ F100))) F144 := Ty.fresh r112 fr145
    have n151 : ∀ a ∈ F144, H0 a = none := fun a h => c0.dom a (fr145 a h)
    have r0 := Ty.fz r0 c140
    have r13 := Ty.chg r13 c140 d62
    have r30 := Ty.chg r30 c140 d63
    have r49 := Ty.chg r49 c140 d64
    have r112 := Ty.chg r112 c140 d116
    have c0 := c0.join c140 (fun a h => .inr (n65 a h))
    refine g_name (σ' := [some v0, some v12, some v29, some v48, some v58, some (.ref p110), some v142, none, none, none, none, none, none]) rfl ?_
    refine q_asg ?_
    refine w_call ?_
    obtain ⟨u152, F153, r154, su155, kx156, ku157⟩ := itm_tup (n := 3) (atS (atS (atS at1))) r112
    have d158 : Dj F153 F31 := Dj.sub (d115) su155
    have d159 : Dj F153 F60 := Dj.sub (d116) su155
    have d160 : Dj F153 F144 := Dj.sub (d150) su155
    have n161 : ∀ a ∈ F153, H0 a = none := fun a h => (app_fresh n75 (app_fresh n98 (app_fresh n54 n109))) a (su155 a h)
    refine w_args (va_cons (val_var rfl) (va_cons (ku157 (val_var rfl) val_c) va_nil)) ?_
    obtain ⟨q162, hq162, hm⟩ := Mi.bnd hm
    have r59_old := r59
    refine Or.inl ⟨v58, F60, q139.2, u152, F153, (q9.1.1, q86.1, q45.1, q9.1.2.2.2).2.2.2, q162, rfl, r59, r154, d159.symm, hq162, fun v165 H164 F167 c163 r166 fr168 r59 => ?_⟩
    have d169 : Dj F14 F167 := Ty.fresh r13 fr168
    have d170 : Dj F31 F167 := Ty.fresh r30 fr168
    have d171 : Dj F50 F167 := Ty.fresh r49 fr168
    have d172 : Dj F60 F167 := Ty.fresh r59_old fr168
    have d173 : Dj (F67 ++ (F91 ++ (F50 ++ F100))) F167 := Ty.fresh r112 fr168
    have d174 : Dj F144 F167 := Ty.fresh r143 fr168
    have n175 : ∀ a ∈ F167, H0 a = none := fun a h => c0.dom a (fr168 a h)
    have r0 := Ty.fz r0 c163
    have r13 := Ty.chg r13 c163 d62
    have r30 := Ty.chg r30 c163 d63
    have r49 := Ty.chg r49 c163 d64
    have r112 := Ty.chg r112 c163 d116
    have r143 := Ty.chg r143 c163 d149.symm
    have c0 := c0.join c163 (fun a h => .inr (n65 a h))
    refine g_name (σ' := [some v0, some v12, some v29, some v48, some v58, some (.ref p110), some v142, some v165, none, none, none, none, none]) rfl ?_
    refine q_asg ?_
    refine w_cb ?_
    refine w_args (va_cons (val_var rfl) va_nil) ?_
    refine w_listL r143 fun p176 H180 np179 c177 r178 => ?_
    have d181 : Dj F14 [p176] := Ty.nin r13 np179
    have d182 : Dj F31 [p176] := Ty.nin r30 np179
    have d183 : Dj F50 [p176] := Ty.nin r49 np179
    have d184 : Dj F60 [p176] := Ty.nin r59 np179
    have d185 : Dj (F67 ++ (F91 ++ (F50 ++ F100))) [p176] := Ty.nin r112 np179
    have d186 : Dj F144 [p176] := Ty.nin r143 np179
    have d187 : Dj F167 [p176] := Ty.nin r166 np179
    have n188 : ∀ a ∈ [p176], H0 a = none := one_fresh (c0.dom p176 np179)
    have r0 := Ty.fz r0 c177
    have r13 := Ty.ex r13 c177
    have r30 := Ty.ex r30 c177
    have r49 := Ty.ex r49 c177
    have r59 := Ty.ex r59 c177
    have r112 := Ty.ex r112 c177
    have r143 := Ty.ex r143 c177
    have r166 := Ty.ex r166 c177
    have c0 := c0.trans c177.none
    refine g_name (σ' := [some v0, some v12, some v29, some v48, some v58, some (.ref p110), some v142, some v165, some (.ref p176), none, none, none, none]) rfl ?_
    refine q_asg ?_
    refine w_cb ?_
    refine w_args (va_cons (val_var rfl) va_nil) ?_
    refine w_listL r166 fun p189 H193 np192 c190 r191 => ?_
    have d194 : Dj F14 [p189] := Ty.nin r13 np192
    have d195 : Dj F31 [p189] := Ty.nin r30 np192
    have d196 : Dj F50 [p189] := Ty.nin r49 np192
    have d197 : Dj F60 [p189] := Ty.nin r59 np192
    have d198 : Dj (F67 ++ (F91 ++ (F50 ++ F100))) [p189] := Ty.nin r112 np192
    have d199 : Dj F144 [p189] := Ty.nin r143 np192
    have d200 : Dj F167 [p189] := Ty.nin r166 np192
    have d201 : Dj [p176] [p189] := Ty.nin r178 np192
    have n202 : ∀ a ∈ [p189], H0 a = none := one_fresh (c0.dom p189 np192)
    have r0 := Ty.fz r0 c190
    have r13 := Ty.ex r13 c190
    have r30 := Ty.ex r30 c190
    have r49 := Ty.ex r49 c190
    have r59 := Ty.ex r59 c190
    have r112 := Ty.ex r112 c190
    have r143 := Ty.ex r143 c190
    have r166 := Ty.ex r166 c190
    have r178 := Ty.ex r178 c190
    have c0 := c0.trans c190.none
    refine g_name (σ' := [some v0, some v12, some v29, some v48, some v58, some (.ref p110), some v142, some v165, some (.ref p176), some (.ref p189), none, none, none]) rfl ?_
    refine q_asg ?_
    refine w_makeK ?_
    refine w_cons ?_
    refine w_cb ?_
    obtain ⟨u203, F204, r205, su206, kx207, ku208⟩ := itm_tup (n := 0) at0 r112
    have d209 : Dj F204 F31 := Dj.sub (d115) su206
    have d210 : Dj F204 F60 := Dj.sub (d116) su206
    have d211 : Dj F204 F144 := Dj.sub (d150) su206
    have d212 : Dj F204 F167 := Dj.sub (d173) su206
    have d213 : Dj F204 [p176] := Dj.sub (d185) su206
    have d214 : Dj F204 [p189] := Dj.sub (d198) su206
    have n215 : ∀ a ∈ F204, H0 a = none := fun a h => (app_fresh n75 (app_fresh n98 (app_fresh n54 n109))) a (su206 a h)
    refine w_args (va_cons (ku208 (val_var rfl) val_c) va_nil) ?_
    refine w_listL r205 fun p216 H220 np219 c217 r218 => ?_
    have d221 : Dj F14 [p216] := Ty.nin r13 np219
    have d222 : Dj F31 [p216] := Ty.nin r30 np219
    have d223 : Dj F50 [p216] := Ty.nin r49 np219
    have d224 : Dj F60 [p216] := Ty.nin r59 np219
    have d225 : Dj (F67 ++ (F91 ++ (F50 ++ F100))) [p216] := Ty.nin r112 np219
    have d226 : Dj F144 [p216] := Ty.nin r143 np219
    have d227 : Dj F167 [p216] := Ty.nin r166 np219
    have d228 : Dj [p176] [p216] := Ty.nin r178 np219
    have d229 : Dj [p189] [p216] := Ty.nin r191 np219
    have d230 : Dj F204 [p216] := Ty.nin r205 np219
    have n231 : ∀ a ∈ [p216], H0 a = none := one_fresh (c0.dom p216 np219)
    have r0 := Ty.fz r0 c217
    have r13 := Ty.ex r13 c217
    have r30 := Ty.ex r30 c217
    have r49 := Ty.ex r49 c217
    have r59 := Ty.ex r59 c217
    have r112 := Ty.ex r112 c217
    have r143 := Ty.ex r143 c217
    have r166 := Ty.ex r166 c217
    have r178 := Ty.ex r178 c217
    have r191 := Ty.ex r191 c217
    have r205 := Ty.ex r205 c217
    have c0 := c0.trans c217.none
    refine w_cons ?_
    refine c_val (val_var rfl) ?_
    refine w_nil ?_
    refine w_cons ?_
    refine w_cb ?_
    obtain ⟨u232, F233, r234, su235, kx236, ku237⟩ := itm_tup (n := 2) (atS (atS at0)) r112
    have d238 : Dj F233 F31 := Dj.sub (d115) su235
    have d239 : Dj F233 F60 := Dj.sub (d116) su235
    have d240 : Dj F233 F144 := Dj.sub (d150) su235
    have d241 : Dj F233 F167 := Dj.sub (d173) su235
    have d242 : Dj F233 [p176] := Dj.sub (d185) su235
    have d243 : Dj F233 [p189] := Dj.sub (d198) su235
    have d244 : Dj F233 [p216] := Dj.sub (d225) su235
    have n245 : ∀ a ∈ F233, H0 a = none := fun a h => (app_fresh n75 (app_fresh n98 (app_fresh n54 n109))) a (su235 a h)
    refine w_args (va_cons (ku237 (val_var rfl) val_c) va_nil) ?_
    refine w_listL r234 fun p246 H250 np249 c247 r248 => ?_
    have d251 : Dj F14 [p246] := Ty.nin r13 np249
    have d252 : Dj F31 [p246] := Ty.nin r30 np249
    have d253 : Dj F50 [p246] := Ty.nin r49 np249
    have d254 : Dj F60 [p246] := Ty.nin r59 np249
    have d255 : Dj (F67 ++ (F91 ++ (F50 ++ F100))) [p246] := Ty.nin r112 np249
    have d256 : Dj F144 [p246] := Ty.nin r143 np249
    have d257 : Dj F167 [p246] := Ty.nin r166 np249
    have d258 : Dj [p176] [p246] := Ty.nin r178 np249
    have d259 : Dj [p189] [p246] := Ty.nin r191 np249
    have d260 : Dj [p216] [p246] := Ty.nin r218 np249
    have d261 : Dj F233 [p246] := Ty.nin r234 np249
    have n262 : ∀ a ∈ [p246], H0 a = none := one_fresh (c0.dom p246 np249)
    have r0 := Ty.fz r0 c247
    have r13 := Ty.ex r13 c247
    have r30 := Ty.ex r30 c247
    have r49 := Ty.ex r49 c247
    have r59 := Ty.ex r59 c247
    have r112 := Ty.ex r112 c247
    have r143 := Ty.ex r143 c247
    have r166 := Ty.ex r166 c247
    have r178 := Ty.ex r178 c247
    have r191 := Ty.ex r191 c247
    have r218 := Ty.ex r218 c247
    have r234 := Ty.ex r234 c247
    have c0 := c0.trans c247.none
    refine w_cons ?_
    refine c_val (val_var rfl) ?_
    refine w_nil ?_
    refine ⟨rfl, rfl, ?_⟩
    intro p263 dx264 nx265 ndx266 nex267
    have d268 : Dj F14 [p263] := Ty.nin r13 nx265
    have d269 : Dj F31 [p263] := Ty.nin r30 nx265
    have d270 : Dj F50 [p263] := Ty.nin r49 nx265
    have d271 : Dj F60 [p263] := Ty.nin r59 nx265
    have d272 : Dj (F67 ++ (F91 ++ (F50 ++ F100))) [p263] := Ty.nin r112 nx265
    have d273 : Dj F144 [p263] := Ty.nin r143 nx265
    have d274 : Dj F167 [p263] := Ty.nin r166 nx265
    have d275 : Dj [p176] [p263] := Ty.nin r178 nx265
    have d276 : Dj [p189] [p263] := Ty.nin r191 nx265
    have d277 : Dj [p216] [p263] := Ty.nin r218 nx265
    have d278 : Dj [p246] [p263] := Ty.nin r248 nx265
    have n279 : ∀ a ∈ [p263], H0 a = none := one_fresh (c0.dom p263 nx265)
    obtain ⟨c280, r281⟩ := make_new (K := K) (C := C_Chart) nx265 ndx266 nex267
    have r0 := Ty.fz r0 c280
    have r13 := Ty.ex r13 c280
    have r30 := Ty.ex r30 c280
    have r49 := Ty.ex r49 c280
    have r59 := Ty.ex r59 c280
    have r112 := Ty.ex r112 c280
    have r143 := Ty.ex r143 c280
    have r166 := Ty.ex r166 c280
    have r178 := Ty.ex r178 c280
    have r191 := Ty.ex r191 c280
    have r218 := Ty.ex r218 c280
    have r248 := Ty.ex r248 c280
    have c0 := c0.trans c280.none
    obtain ⟨q282, hq282, hm⟩ := Mi.bnd hm
    refine Or.inl ⟨p263, dx264, (.ref p216), [p216], (q9.1.1, q86.1, q45.1, q9.1.2.2.2).1, (.ref p176), [p176], q139.1, (.ref p246), [p246], (q9.1.1, q86.1, q45.1, q9.1.2.2.2).2.2.1, (.ref p189), [p189], q162.1, q282, rfl, r281, r218, r178, r248, r191, d277.symm, d275.symm, d278.symm, d276.symm, hq282, fun H284 c283 r285 => ⟨rfl, ?_⟩⟩
    have r0 := Ty.fz r0 c283
    have r13 := Ty.chg r13 c283 d268
    have r30 := Ty.chg r30 c283 d269
    have r49 := Ty.chg r49 c283 d270
    have r59 := Ty.chg r59 c283 d271
    have r112 := Ty.chg r112 c283 d272
    have r143 := Ty.chg r143 c283 d273
    have r166 := Ty.chg r166 c283 d274
    have r178 := Ty.chg r178 c283 d275
    have r191 := Ty.chg r191 c283 d276
    have c0 := c0.join c283 (fun a h => .inr (n279 a h))
    refine g_name (σ' := [some v0, some v12, some v29, some v48, some v58, some (.ref p110), some v142, some v165, some (.ref p176), some (.ref p189), some (.ref p263), none, none]) rfl ?_
    refine q_asg ?_
    refine w_tup ?_
    refine w_cons ?_
    obtain ⟨u286, F287, r288, su289, kx290, ku291⟩ := itm_tup (n := 0) at0 r30
    have d292 : Dj F287 F14 := Dj.sub (d33.symm) su289
    have d293 : Dj F287 F50 := Dj.sub (d53) su289
    have d294 : Dj F287 F60 := Dj.sub (d63) su289
    have d295 : Dj F287 (F67 ++ (F91 ++ (F50 ++ F100))) := Dj.sub (d115.symm) su289
    have d296 : Dj F287 F144 := Dj.sub (d147) su289
    have d297 : Dj F287 F167 := Dj.sub (d170) su289
    have d298 : Dj F287 [p176] := Dj.sub (d182) su289
    have d299 : Dj F287 [p189] := Dj.sub (d195) su289
    have n300 : ∀ a ∈ F287, H0 a = none := fun a h => n34 a (su289 a h)
    refine c_val (ku291 (val_var rfl) val_c) ?_
    refine w_cons ?_
    obtain ⟨u301, F302, r303, su304, kx305, ku306⟩ := itm_tup (n := 1) (atS at0) r30
    have d307 : Dj F302 F14 := Dj.sub (d33.symm) su304
    have d308 : Dj F302 F50 := Dj.sub (d53) su304
    have d309 : Dj F302 F60 := Dj.sub (d63) su304
    have d310 : Dj F302 (F67 ++ (F91 ++ (F50 ++ F100))) := Dj.sub (d115.symm) su304
    have d311 : Dj F302 F144 := Dj.sub (d147) su304
    have d312 : Dj F302 F167 := Dj.sub (d170) su304
    have d313 : Dj F302 [p176] := Dj.sub (d182) su304
    have d314 : Dj F302 [p189] := Dj.sub (d195) su304
    have n315 : ∀ a ∈ F302, H0 a = none := fun a h => n34 a (su304 a h)
    refine c_val (ku306 (val_var rfl) val_c) ?_
    refine w_cons ?_
    obtain ⟨u316, F317, r318, su319, kx320, ku321⟩ := itm_tup (n := 2) (atS (atS at0)) r30
    have d322 : Dj F317 F14 := Dj.sub (d33.symm) su319
    have d323 : Dj F317 F50 := Dj.sub (d53) su319
    have d324 : Dj F317 F60 := Dj.sub (d63) su319
    have d325 : Dj F317 (F67 ++ (F91 ++ (F50 ++ F100))) := Dj.sub (d115.symm) su319
    have d326 : Dj F317 F144 := Dj.sub (d147) su319
    have d327 : Dj F317 F167 := Dj.sub (d170) su319
    have d328 : Dj F317 [p176] := Dj.sub (d182) su319
    have d329 : Dj F317 [p189] := Dj.sub (d195) su319
    have n330 : ∀ a ∈ F317, H0 a = none := fun a h => n34 a (su319 a h)
    refine c_val (ku321 (val_var rfl) val_c) ?_
    refine w_cons ?_
    refine w_lst ?_
    refine w_args va_nil ?_
    refine e_lst (K := K) (τ := yInt) (by exact Nat.le_of_ble_eq_true rfl) .nil fun p331 H335 np334 c332 r333 => ?_
    have d336 : Dj F14 [p331] := Ty.nin r13 np334
    have d337 : Dj F31 [p331] := Ty.nin r30 np334
    have d338 : Dj F50 [p331] := Ty.nin r49 np334
    have d339 : Dj F60 [p331] := Ty.nin r59 np334
    have d340 : Dj (F67 ++ (F91 ++ (F50 ++ F100))) [p331] := Ty.nin r112 np334
    have d341 : Dj F144 [p331] := Ty.nin r143 np334
    have d342 : Dj F167 [p331] := Ty.nin r166 np334
    have d343 : Dj [p176] [p331] := Ty.nin r178 np334
    have d344 : Dj [p189] [p331] := Ty.nin r191 np334
    have d345 : Dj F287 [p331] := Ty.nin r288 np334
    have d346 : Dj F302 [p331] := Ty.nin r303 np334
    have d347 : Dj F317 [p331] := Ty.nin r318 np334
    have n348 : ∀ a ∈ [p331], H0 a = none := one_fresh (c0.dom p331 np334)
    have r0 := Ty.fz r0 c332
    have r13 := Ty.ex r13 c332
    have r30 := Ty.ex r30 c332
    have r49 := Ty.ex r49 c332
    have r59 := Ty.ex r59 c332
    have r112 := Ty.ex r112 c332
    have r143 := Ty.ex r143 c332
    have r166 := Ty.ex r166 c332
    have r178 := Ty.ex r178 c332
    have r191 := Ty.ex r191 c332
    have r285 := Ty.fz r285 c332
    have r288 := Ty.ex r288 c332
    have r303 := Ty.ex r303 c332
    have r318 := Ty.ex r318 c332
    have c0 := c0.trans c332.none
    refine w_nil ?_
    refine e_tup (K := K) (ty := (sCons (yLst yInt) (sCons (yLst (yTup (sCons yInt (sOne yInt)))) (sCons (yLst yInt) (sOne (yLst yInt)))))) (F := (F287 ++ (F302 ++ (F317 ++ [p331])))) (d := (q26.1.1, q26.1.2.1, q26.1.2.2.1, ([] : (List Int)))) (by exact Nat.le_of_ble_eq_true rfl) ⟨_, _, _, _, rfl, rfl, r288, ⟨_, _, _, _, rfl, rfl, r303, ⟨_, _, _, _, rfl, rfl, r318, ⟨_, rfl, r333⟩⟩⟩⟩ fun p349 H353 np352 c350 r351 => ?_
    have r0 := Ty.fz r0 c350
    have r13 := Ty.ex r13 c350
    have r30 := Ty.ex r30 c350
    have r49 := Ty.ex r49 c350
    have r59 := Ty.ex r59 c350
    have r112 := Ty.ex r112 c350
    have r143 := Ty.ex r143 c350
    have r166 := Ty.ex r166 c350
    have r178 := Ty.ex r178 c350
    have r191 := Ty.ex r191 c350
    have r285 := Ty.fz r285 c350
    have r288 := Ty.ex r288 c350
    have r303 := Ty.ex r303 c350
    have r318 := Ty.ex r318 c350
    have r333 := Ty.ex r333 c350
    have c0 := c0.trans c350.none
    have d354 : Dj (F287 ++ (F302 ++ (F317 ++ [p331]))) F14 := (Dj.app (d292) ((Dj.app (d307) ((Dj.app (d322) (d336.symm))))))
    have d355 : Dj (F287 ++ (F302 ++ (F317 ++ [p331]))) F50 := (Dj.app (d293) ((Dj.app (d308) ((Dj.app (d323) (d338.symm))))))
    have d356 : Dj (F287 ++ (F302 ++ (F317 ++ [p331]))) F60 := (Dj.app (d294) ((Dj.app (d309) ((Dj.app (d324) (d339.symm))))))
    have d357 : Dj (F287 ++ (F302 ++ (F317 ++ [p331]))) (F67 ++ (F91 ++ (F50 ++ F100))) := (Dj.app (d295) ((Dj.app (d310) ((Dj.app (d325) (d340.symm))))))
    have d358 : Dj (F287 ++ (F302 ++ (F317 ++ [p331]))) F144 := (Dj.app (d296) ((Dj.app (d311) ((Dj.app (d326) (d341.symm))))))
    have d359 : Dj (F287 ++ (F302 ++ (F317 ++ [p331]))) F167 := (Dj.app (d297) ((Dj.app (d312) ((Dj.app (d327) (d342.symm))))))
    have d360 : Dj (F287 ++ (F302 ++ (F317 ++ [p331]))) [p176] := (Dj.app (d298) ((Dj.app (d313) ((Dj.app (d328) (d343.symm))))))
    have d361 : Dj (F287 ++ (F302 ++ (F317 ++ [p331]))) [p189] := (Dj.app (d299) ((Dj.app (d314) ((Dj.app (d329) (d344.symm))))))
    refine g_name (σ' := [some v0, some v12, some v29, some v48, some v58, some (.ref p110), some v142, some v165, some (.ref p176), some (.ref p189), some (.ref p263), some (.ref p349), none]) rfl ?_
    refine q_asg ?_
    refine w_makeK ?_
    refine w_cons ?_
    refine w_cb ?_
    obtain ⟨u362, F363, r364, su365, kx366, ku367⟩ := itm_tup (n := 0) at0 r351
    have d368 : Dj F363 F14 := Dj.sub (d354) su365
    have d369 : Dj F363 F50 := Dj.sub (d355) su365
    have d370 : Dj F363 F60 := Dj.sub (d356) su365
    have d371 : Dj F363 (F67 ++ (F91 ++ (F50 ++ F100))) := Dj.sub (d357) su365
    have d372 : Dj F363 F144 := Dj.sub (d358) su365
    have d373 : Dj F363 F167 := Dj.sub (d359) su365
    have d374 : Dj F363 [p176] := Dj.sub (d360) su365
    have d375 : Dj F363 [p189] := Dj.sub (d361) su365
    have n376 : ∀ a ∈ F363, H0 a = none := fun a h => (app_fresh n300 (app_fresh n315 (app_fresh n330 n348))) a (su365 a h)
    refine w_args (va_cons (ku367 (val_var rfl) val_c) va_nil) ?_
    refine w_tupleL r364 fun v377 H378 c379 r380 => ?_
    have r0 := Ty.fz r0 c379
    have r13 := Ty.ex r13 c379
    have r30 := Ty.ex r30 c379
    have r49 := Ty.ex r49 c379
    have r59 := Ty.ex r59 c379
    have r112 := Ty.ex r112 c379
    have r143 := Ty.ex r143 c379
    have r166 := Ty.ex r166 c379
    have r178 := Ty.ex r178 c379
    have r191 := Ty.ex r191 c379
    have r285 := Ty.fz r285 c379
    have r351 := Ty.ex r351 c379
    have r364 := Ty.ex r364 c379
    have c0 := c0.trans c379.none
    refine w_cons ?_
    refine w_cb ?_
    obtain ⟨u381, F382, r383, su384, kx385, ku386⟩ := itm_tup (n := 1) (atS at0) r351
    have d387 : Dj F382 F14 := Dj.sub (d354) su384
    have d388 : Dj F382 F50 := Dj.sub (d355) su384
    have d389 : Dj F382 F60 := Dj.sub (d356) su384
    have d390 : Dj F382 (F67 ++ (F91 ++ (F50 ++ F100))) := Dj.sub (d357) su384
    have d391 : Dj F382 F144 := Dj.sub (d358) su384
    have d392 : Dj F382 F167 := Dj.sub (d359) su384
    have d393 : Dj F382 [p176] := Dj.sub (d360) su384
    have d394 : Dj F382 [p189] := Dj.sub (d361) su384
    have n395 : ∀ a ∈ F382, H0 a = none := fun a h => (app_fresh n300 (app_fresh n315 (app_fresh n330 n348))) a (su384 a h)
    refine w_args (va_cons (ku386 (val_var rfl) val_c) va_nil) ?_
    refine w_tupleL r383 fun v396 H397 c398 r399 => ?_
    have r0 := Ty.fz r0 c398
    have r13 := Ty.ex r13 c398
    have r30 := Ty.ex r30 c398
    have r49 := Ty.ex r49 c398
    have r59 := Ty.ex r59 c398
    have r112 := Ty.ex r112 c398
    have r143 := Ty.ex r143 c398
    have r166 := Ty.ex r166 c398
    have r178 := Ty.ex r178 c398
    have r191 := Ty.ex r191 c398
    have r285 := Ty.fz r285 c398
    have r351 := Ty.ex r351 c398
    have r380 := Ty.fz r380 c398
    have r383 := Ty.ex r383 c398
    have c0 := c0.trans c398.none
    refine w_nil ?_
    refine w_cons ?_
    refine w_cb ?_
    obtain ⟨u400, F401, r402, su403, kx404, ku405⟩ := itm_tup (n := 2) (atS (atS at0)) r351
    have d406 : Dj F401 F14 := Dj.sub (d354) su403
    have d407 : Dj F401 F50 := Dj.sub (d355) su403
    have d408 : Dj F401 F60 := Dj.sub (d356) su403
    have d409 : Dj F401 (F67 ++ (F91 ++ (F50 ++ F100))) := Dj.sub (d357) su403
    have d410 : Dj F401 F144 := Dj.sub (d358) su403
    have d411 : Dj F401 F167 := Dj.sub (d359) su403
    have d412 : Dj F401 [p176] := Dj.sub (d360) su403
    have d413 : Dj F401 [p189] := Dj.sub (d361) su403
    have n414 : ∀ a ∈ F401, H0 a = none := fun a h => (app_fresh n300 (app_fresh n315 (app_fresh n330 n348))) a (su403 a h)
    refine w_args (va_cons (ku405 (val_var rfl) val_c) va_nil) ?_
    refine w_tupleL r402 fun v415 H416 c417 r418 => ?_
    have r0 := Ty.fz r0 c417
    have r13 := Ty.ex r13 c417
    have r30 := Ty.ex r30 c417
    have r49 := Ty.ex r49 c417
    have r59 := Ty.ex r59 c417
    have r112 := Ty.ex r112 c417
    have r143 := Ty.ex r143 c417
    have r166 := Ty.ex r166 c417
    have r178 := Ty.ex r178 c417
    have r191 := Ty.ex r191 c417
    have r285 := Ty.fz r285 c417
    have r351 := Ty.ex r351 c417
    have r380 := Ty.fz r380 c417
    have r399 := Ty.fz r399 c417
    have r402 := Ty.ex r402 c417
    have c0 := c0.trans c417.none
    refine w_nil ?_
    refine ⟨rfl, rfl, ?_⟩
    intro p419 dx420 nx421 ndx422 nex423
    have d424 : Dj F14 [p419] := Ty.nin r13 nx421
    have d425 : Dj F31 [p419] := Ty.nin r30 nx421
    have d426 : Dj F50 [p419] := Ty.nin r49 nx421
    have d427 : Dj F60 [p419] := Ty.nin r59 nx421
    have d428 : Dj (F67 ++ (F91 ++ (F50 ++ F100))) [p419] := Ty.nin r112 nx421
    have d429 : Dj F144 [p419] := Ty.nin r143 nx421
    have d430 : Dj F167 [p419] := Ty.nin r166 nx421
    have d431 : Dj [p176] [p419] := Ty.nin r178 nx421
    have d432 : Dj [p189] [p419] := Ty.nin r191 nx421
    have d433 : Dj (F287 ++ (F302 ++ (F317 ++ [p331]))) [p419] := Ty.nin r351 nx421
    have n434 : ∀ a ∈ [p419], H0 a = none := one_fresh (c0.dom p419 nx421)
    obtain ⟨c435, r436⟩ := make_new (K := K) (C := C_Chart) nx421 ndx422 nex423
    have r0 := Ty.fz r0 c435
    have r13 := Ty.ex r13 c435
    have r30 := Ty.ex r30 c435
    have r49 := Ty.ex r49 c435
    have r59 := Ty.ex r59 c435
    have r112 := Ty.ex r112 c435
    have r143 := Ty.ex r143 c435
    have r166 := Ty.ex r166 c435
    have r178 := Ty.ex r178 c435
    have r191 := Ty.ex r191 c435
    have r285 := Ty.fz r285 c435
    have r351 := Ty.ex r351 c435
    have r380 := Ty.fz r380 c435
    have r399 := Ty.fz r399 c435
    have r418 := Ty.fz r418 c435
    have c0 := c0.trans c435.none
    obtain ⟨q437, hq437, hm⟩ := Mi.bnd hm
    refine Or.inr (⟨p419, dx420, v377, (q26.1.1, q26.1.2.1, q26.1.2.2.1, ([] : (List Int))).1, v396, (q26.1.1, q26.1.2.1, q26.1.2.2.1, ([] : (List Int))).2.1, v415, (q26.1.1, q26.1.2.1, q26.1.2.2.1, ([] : (List Int))).2.2.1, (.ref (kwdAt ("Chart", some "__init__") "harbours" K)), ([] : List Int), q437, rfl, r436, r380, r399, r418, (CN.d_Chart_harbours _), hq437, fun H439 c438 r440 => ⟨rfl, ?_⟩⟩)
    have r0 := Ty.fz r0 c438
    have r13 := Ty.chg r13 c438 d424
    have r30 := Ty.chg r30 c438 d425
    have r49 := Ty.chg r49 c438 d426
    have r59 := Ty.chg r59 c438 d427
    have r112 := Ty.chg r112 c438 d428
    have r143 := Ty.chg r143 c438 d429
    have r166 := Ty.chg r166 c438 d430
    have r178 := Ty.chg r178 c438 d431
    have r191 := Ty.chg r191 c438 d432
    have r285 := Ty.fz r285 c438
    have r351 := Ty.chg r351 c438 d433
    have c0 := c0.join c438 (fun a h => .inr (n434 a h))
    refine g_name (σ' := [some v0, some v12, some v29, some v48, some v58, some (.ref p110), some v142, some v165, some (.ref p176), some (.ref p189), some (.ref p263), some (.ref p349), some (.ref p419)]) rfl ?_
    refine q_ifS ?_
    obtain ⟨b441, hb441, hm⟩ := Mi.bnd hm
    refine j_tt b441 (R := fun H' => Chg ([] : List Addr) H0 H' ∧ yScr.rep K H' [] v0 d0 ∧ (yTup (sCons (yLst yInt) (sCons (yLst (yTup (sCons yInt (sOne yInt)))) (sCons (yLst yInt) (sOne (yLst yInt)))))).rep K H' F14 v12 q9.1 ∧ (yTup (sCons (yLst yInt) (sCons (yLst (yTup (sCons yInt (sOne yInt)))) (sCons (yLst yInt) (sOne (yLst yInt)))))).rep K H' F31 v29 q26.1 ∧ (yLst yInt).rep K H' F50 v48 q45.1 ∧ (yLst yInt).rep K H' F60 v58 q162.2 ∧ (yTup (sCons (yLst yInt) (sCons (yLst (yTup (sCons yInt (sOne yInt)))) (sCons (yLst yInt) (sOne (yLst yInt)))))).rep K H' (F67 ++ (F91 ++ (F50 ++ F100))) (.ref p110) (q9.1.1, q86.1, q45.1, q9.1.2.2.2) ∧ (yLst (yTup (sCons yInt (sOne yInt)))).rep K H' F144 v142 q139.1 ∧ (yLst yInt).rep K H' F167 v165 q162.1 ∧ (yLst (yTup (sCons yInt (sOne yInt)))).rep K H' [p176] (.ref p176) q139.1 ∧ (yLst yInt).rep K H' [p189] (.ref p189) q162.1 ∧ (yObj C_Chart nm_Chart ty_Chart).rep K H' [] (.ref p263) q282 ∧ (yTup (sCons (yLst yInt) (sCons (yLst (yTup (sCons yInt (sOne yInt)))) (sCons (yLst yInt) (sOne (yLst yInt)))))).rep K H' (F287 ++ (F302 ++ (F317 ++ [p331]))) (.ref p349) (q26.1.1, q26.1.2.1, q26.1.2.2.1, ([] : (List Int))) ∧ (yObj C_Chart nm_Chart ty_Chart).rep K H' [] (.ref p419) q437) (fun Q' kq => ?_) (fun H' hj => ?_)
    ·
      refine w_or ?_
      refine w_not ?_
      refine w_B ?_
      refine w_call ?_
      refine w_args (va_cons (val_var rfl) (va_cons (val_var rfl) va_nil)) ?_
      obtain ⟨q442, hq442, hb441⟩ := Mi.bnd hb441
      refine ⟨(.ref p263), q282, (.ref p110), (F67 ++ (F91 ++ (F50 ++ F100))), (q9.1.1, q86.1, q45.1, q9.1.2.2.2), q442, rfl, r285, r112, hq442, fun H444 c443  => ?_⟩
      have r0 := Ty.fz r0 c443
      have r13 := Ty.ex r13 c443
      have r30 := Ty.ex r30 c443
      have r49 := Ty.ex r49 c443
      have r59 := Ty.ex r59 c443
      have r112 := Ty.ex r112 c443
      have r143 := Ty.ex r143 c443
      have r166 := Ty.ex r166 c443
      have r178 := Ty.ex r178 c443
      have r191 := Ty.ex r191 c443
      have r285 := Ty.fz r285 c443
      have r351 := Ty.ex r351 c443
      have r440 := Ty.fz r440 c443
      have c0 := c0.trans c443.none
      refine ⟨_, rfl, ?_⟩
      refine c_if (fun hb => ?_) (fun hb => ?_)
      ·
        replace hb441 := Mi.ifT hb hb441
        obtain rfl := Option.some.inj hb441
        exact kq _ ⟨c0, r0, r13, r30, r49, r59, r112, r143, r166, r178, r191, r285, r351, r440⟩
      replace hb441 := Mi.ifF hb hb441
      refine w_not ?_
      refine w_B ?_
      refine w_call ?_
      refine w_args (va_cons (val_var rfl) (va_cons (val_var rfl) va_nil)) ?_
      obtain ⟨q445, hq445, hb441⟩ := Mi.bnd hb441
      refine ⟨(.ref p419), q437, (.ref p349), (F287 ++ (F302 ++ (F317 ++ [p331]))), (q26.1.1, q26.1.2.1, q26.1.2.2.1, ([] : (List Int))), q445, rfl, r440, r351, hq445, fun H447 c446  => ?_⟩
      have r0 := Ty.fz r0 c446
      have r13 := Ty.ex r13 c446
      have r30 := Ty.ex r30 c446
      have r49 := Ty.ex r49 c446
      have r59 := Ty.ex r59 c446
      have r112 := Ty.ex r112 c446
      have r143 := Ty.ex r143 c446
      have r166 := Ty.ex r166 c446
      have r178 := Ty.ex r178 c446
      have r191 := Ty.ex r191 c446
      have r285 := Ty.fz r285 c446
      have r351 := Ty.ex r351 c446
      have r440 := Ty.fz r440 c446
      have c0 := c0.trans c446.none
      refine ⟨_, rfl, ?_⟩
      obtain rfl := Option.some.inj hb441
      exact kq _ ⟨c0, r0, r13, r30, r49, r59, r112, r143, r166, r178, r191, r285, r351, r440⟩
    obtain ⟨c0, r0, r13, r30, r49, r59, r112, r143, r166, r178, r191, r285, r351, r440⟩ := hj
    refine c_if (fun hb => ?_) (fun hb => ?_)
    ·
      replace hm := Mi.ifT hb hm
      refine q_ret ?_
      refine c_val val_c ?_
      obtain rfl := Option.some.inj hm
      exact hQ _ c0 
    replace hm := Mi.ifF hb hm
    refine w_fall ?_
    refine q_ifS ?_
    obtain ⟨b448, hb448, hm⟩ := Mi.bnd hm
    refine j_tt b448 (R := fun H' => Chg ([] : List Addr) H0 H' ∧ yScr.rep K H' [] v0 d0 ∧ (yTup (sCons (yLst yInt) (sCons (yLst (yTup (sCons yInt (sOne yInt)))) (sCons (yLst yInt) (sOne (yLst yInt)))))).rep K H' F14 v12 q9.1 ∧ (yTup (sCons (yLst yInt) (sCons (yLst (yTup (sCons yInt (sOne yInt)))) (sCons (yLst yInt) (sOne (yLst yInt)))))).rep K H' F31 v29 q26.1 ∧ (yLst yInt).rep K H' F50 v48 q45.1 ∧ (yLst yInt).rep K H' F60 v58 q162.2 ∧ (yTup (sCons (yLst yInt) (sCons (yLst (yTup (sCons yInt (sOne yInt)))) (sCons (yLst yInt) (sOne (yLst yInt)))))).rep K H' (F67 ++ (F91 ++ (F50 ++ F100))) (.ref p110) (q9.1.1, q86.1, q45.1, q9.1.2.2.2) ∧ (yLst (yTup (sCons yInt (sOne yInt)))).rep K H' F144 v142 q139.1 ∧ (yLst yInt).rep K H' F167 v165 q162.1 ∧ (yLst (yTup (sCons yInt (sOne yInt)))).rep K H' [p176] (.ref p176) q139.1 ∧ (yLst yInt).rep K H' [p189] (.ref p189) q162.1 ∧ (yObj C_Chart nm_Chart ty_Chart).rep K H' [] (.ref p263) q282 ∧ (yTup (sCons (yLst yInt) (sCons (yLst (yTup (sCons yInt (sOne yInt)))) (sCons (yLst yInt) (sOne (yLst yInt)))))).rep K H' (F287 ++ (F302 ++ (F317 ++ [p331]))) (.ref p349) (q26.1.1, q26.1.2.1, q26.1.2.2.1, ([] : (List Int))) ∧ (yObj C_Chart nm_Chart ty_Chart).rep K H' [] (.ref p419) q437) (fun Q' kq => ?_) (fun H' hj => ?_)
    ·
      refine w_or ?_
      refine w_not ?_
      refine w_B ?_
      refine w_call ?_
      refine w_args (va_cons (val_var rfl) (va_cons (val_var rfl) va_nil)) ?_
      obtain ⟨q449, hq449, hb448⟩ := Mi.bnd hb448
      refine ⟨(.ref p263), q282, (.ref p110), (F67 ++ (F91 ++ (F50 ++ F100))), (q9.1.1, q86.1, q45.1, q9.1.2.2.2), q449, rfl, r285, r112, hq449, fun H451 c450  => ?_⟩
      have r0 := Ty.fz r0 c450
      have r13 := Ty.ex r13 c450
      have r30 := Ty.ex r30 c450
      have r49 := Ty.ex r49 c450
      have r59 := Ty.ex r59 c450
      have r112 := Ty.ex r112 c450
      have r143 := Ty.ex r143 c450
      have r166 := Ty.ex r166 c450
      have r178 := Ty.ex r178 c450
      have r191 := Ty.ex r191 c450
      have r285 := Ty.fz r285 c450
      have r351 := Ty.ex r351 c450
      have r440 := Ty.fz r440 c450
      have c0 := c0.trans c450.none
      refine ⟨_, rfl, ?_⟩
      refine c_if (fun hb => ?_) (fun hb => ?_)
      ·
        replace hb448 := Mi.ifT hb hb448
        obtain rfl := Option.some.inj hb448
        exact kq _ ⟨c0, r0, r13, r30, r49, r59, r112, r143, r166, r178, r191, r285, r351, r440⟩
      replace hb448 := Mi.ifF hb hb448
      refine w_not ?_
      refine w_B ?_
      refine w_call ?_
      refine w_args (va_cons (val_var rfl) (va_cons (val_var rfl) va_nil)) ?_
      obtain ⟨q452, hq452, hb448⟩ := Mi.bnd hb448
      refine ⟨(.ref p419), q437, (.ref p349), (F287 ++ (F302 ++ (F317 ++ [p331]))), (q26.1.1, q26.1.2.1, q26.1.2.2.1, ([] : (List Int))), q452, rfl, r440, r351, hq452, fun H454 c453  => ?_⟩
      have r0 := Ty.fz r0 c453
      have r13 := Ty.ex r13 c453
      have r30 := Ty.ex r30 c453
      have r49 := Ty.ex r49 c453
      have r59 := Ty.ex r59 c453
      have r112 := Ty.ex r112 c453
      have r143 := Ty.ex r143 c453
      have r166 := Ty.ex r166 c453
      have r178 := Ty.ex r178 c453
      have r191 := Ty.ex r191 c453
      have r285 := Ty.fz r285 c453
      have r351 := Ty.ex r351 c453
      have r440 := Ty.fz r440 c453
      have c0 := c0.trans c453.none
      refine ⟨_, rfl, ?_⟩
      obtain rfl := Option.some.inj hb448
      exact kq _ ⟨c0, r0, r13, r30, r49, r59, r112, r143, r166, r178, r191, r285, r351, r440⟩
    obtain ⟨c0, r0, r13, r30, r49, r59, r112, r143, r166, r178, r191, r285, r351, r440⟩ := hj
    refine c_if (fun hb => ?_) (fun hb => ?_)
    ·
      replace hm := Mi.ifT hb hm
      refine q_ret ?_
      refine c_val val_c ?_
      obtain rfl := Option.some.inj hm
      exact hQ _ c0 
    replace hm := Mi.ifF hb hm
    refine w_fall ?_
    refine q_ifS ?_
    obtain ⟨b455, hb455, hm⟩ := Mi.bnd hm
    refine j_tt b455 (R := fun H' => Chg ([] : List Addr) H0 H' ∧ yScr.rep K H' [] v0 d0 ∧ (yTup (sCons (yLst yInt) (sCons (yLst (yTup (sCons yInt (sOne yInt)))) (sCons (yLst yInt) (sOne (yLst yInt)))))).rep K H' F14 v12 q9.1 ∧ (yTup (sCons (yLst yInt) (sCons (yLst (yTup (sCons yInt (sOne yInt)))) (sCons (yLst yInt) (sOne (yLst yInt)))))).rep K H' F31 v29 q26.1 ∧ (yLst yInt).rep K H' F50 v48 q45.1 ∧ (yLst yInt).rep K H' F60 v58 q162.2 ∧ (yTup (sCons (yLst yInt) (sCons (yLst (yTup (sCons yInt (sOne yInt)))) (sCons (yLst yInt) (sOne (yLst yInt)))))).rep K H' (F67 ++ (F91 ++ (F50 ++ F100))) (.ref p110) (q9.1.1, q86.1, q45.1, q9.1.2.2.2) ∧ (yLst (yTup (sCons yInt (sOne yInt)))).rep K H' F144 v142 q139.1 ∧ (yLst yInt).rep K H' F167 v165 q162.1 ∧ (yLst (yTup (sCons yInt (sOne yInt)))).rep K H' [p176] (.ref p176) q139.1 ∧ (yLst yInt).rep K H' [p189] (.ref p189) q162.1 ∧ (yObj C_Chart nm_Chart ty_Chart).rep K H' [] (.ref p263) q282 ∧ (yTup (sCons (yLst yInt) (sCons (yLst (yTup (sCons yInt (sOne yInt)))) (sCons (yLst yInt) (sOne (yLst yInt)))))).rep K H' (F287 ++ (F302 ++ (F317 ++ [p331]))) (.ref p349) (q26.1.1, q26.1.2.1, q26.1.2.2.1, ([] : (List Int))) ∧ (yObj C_Chart nm_Chart ty_Chart).rep K H' [] (.ref p419) q437) (fun Q' kq => ?_) (fun H' hj => ?_)
    ·
      refine w_or ?_
      refine w_test ?_
      refine w_op ?_
      refine c_val (val_var rfl) ?_
      refine c_val (val_var rfl) ?_
      refine w_neD (τ := (yLst (yTup (sCons yInt (sOne yInt))))) (dat_lst (dat_tup (sat_cons dat_int (sat_one dat_int)))) r178 r143 ?_
      refine ⟨_, rfl, ?_⟩
      refine c_if (fun hb => ?_) (fun hb => ?_)
      ·
        replace hb455 := Mi.ifT hb hb455
        obtain rfl := Option.some.inj hb455
        exact kq _ ⟨c0, r0, r13, r30, r49, r59, r112, r143, r166, r178, r191, r285, r351, r440⟩
      replace hb455 := Mi.ifF hb hb455
      refine w_test ?_
      refine w_op ?_
      refine c_val (val_var rfl) ?_
      refine c_val (val_var rfl) ?_
      refine w_neD (τ := (yLst yInt)) (dat_lst dat_int) r191 r166 ?_
      refine ⟨_, rfl, ?_⟩
      obtain rfl := Option.some.inj hb455
      exact kq _ ⟨c0, r0, r13, r30, r49, r59, r112, r143, r166, r178, r191, r285, r351, r440⟩
    obtain ⟨c0, r0, r13, r30, r49, r59, r112, r143, r166, r178, r191, r285, r351, r440⟩ := hj
    refine c_if (fun hb => ?_) (fun hb => ?_)
    ·
      replace hm := Mi.ifT hb hm
      refine q_ret ?_
      refine c_val val_c ?_
      obtain rfl := Option.some.inj hm
      exact hQ _ c0 
    replace hm := Mi.ifF hb hm
    refine w_fall ?_
    refine q_drop (w_bm0 (c_val (val_var rfl) ⟨tyv_lst r178, ?_⟩))
    refine m_clear r178 fun H457 c456 r178 => ?_
    have r0 := Ty.fz r0 c456
    have r13 := Ty.chg r13 c456 d181
    have r30 := Ty.chg r30 c456 d182
    have r49 := Ty.chg r49 c456 d183
    have r59 := Ty.chg r59 c456 d184
    have r112 := Ty.chg r112 c456 d185
    have r143 := Ty.chg r143 c456 d186
    have r166 := Ty.chg r166 c456 d187
    have r191 := Ty.chg r191 c456 d201.symm
    have r285 := Ty.fz r285 c456
    have r351 := Ty.chg r351 c456 d360
    have r440 := Ty.fz r440 c456
    have c0 := c0.join c456 (fun a h => .inr (n188 a h))
    refine q_drop (w_bm0 (c_val (val_var rfl) ⟨tyv_lst r191, ?_⟩))
    refine m_clear r191 fun H459 c458 r191 => ?_
    have r0 := Ty.fz r0 c458
    have r13 := Ty.chg r13 c458 d194
    have r30 := Ty.chg r30 c458 d195
    have r49 := Ty.chg r49 c458 d196
    have r59 := Ty.chg r59 c458 d197
    have r112 := Ty.chg r112 c458 d198
    have r143 := Ty.chg r143 c458 d199
    have r166 := Ty.chg r166 c458 d200
    have r178 := Ty.chg r178 c458 d201
    have r285 := Ty.fz r285 c458
    have r351 := Ty.chg r351 c458 d361
    have r440 := Ty.fz r440 c458
    have c0 := c0.join c458 (fun a h => .inr (n202 a h))
    refine q_ret ?_
    obtain ⟨b460, hb460, hm⟩ := Mi.bnd hm
    refine j_te (.bl b460) (R := fun H' => Chg ([] : List Addr) H0 H' ∧ yScr.rep K H' [] v0 d0 ∧ (yTup (sCons (yLst yInt) (sCons (yLst (yTup (sCons yInt (sOne yInt)))) (sCons (yLst yInt) (sOne (yLst yInt)))))).rep K H' F14 v12 q9.1 ∧ (yTup (sCons (yLst yInt) (sCons (yLst (yTup (sCons yInt (sOne yInt)))) (sCons (yLst yInt) (sOne (yLst yInt)))))).rep K H' F31 v29 q26.1 ∧ (yLst yInt).rep K H' F50 v48 q45.1 ∧ (yLst yInt).rep K H' F60 v58 q162.2 ∧ (yTup (sCons (yLst yInt) (sCons (yLst (yTup (sCons yInt (sOne yInt)))) (sCons (yLst yInt) (sOne (yLst yInt)))))).rep K H' (F67 ++ (F91 ++ (F50 ++ F100))) (.ref p110) (q9.1.1, q86.1, q45.1, q9.1.2.2.2) ∧ (yLst (yTup (sCons yInt (sOne yInt)))).rep K H' F144 v142 q139.1 ∧ (yLst yInt).rep K H' F167 v165 q162.1 ∧ (yLst (yTup (sCons yInt (sOne yInt)))).rep K H' [p176] (.ref p176) ([] : (List (Int × Int))) ∧ (yLst yInt).rep K H' [p189] (.ref p189) ([] : (List Int)) ∧ (yObj C_Chart nm_Chart ty_Chart).rep K H' [] (.ref p263) q282 ∧ (yTup (sCons (yLst yInt) (sCons (yLst (yTup (sCons yInt (sOne yInt)))) (sCons (yLst yInt) (sOne (yLst yInt)))))).rep K H' (F287 ++ (F302 ++ (F317 ++ [p331]))) (.ref p349) (q26.1.1, q26.1.2.1, q26.1.2.2.1, ([] : (List Int))) ∧ (yObj C_Chart nm_Chart ty_Chart).rep K H' [] (.ref p419) q437) (fun Q' kq => ?_) (fun H' hj => ?_)
    ·
      refine w_andV ?_
      refine w_call ?_
      refine w_args (va_cons (val_var rfl) (va_cons (val_var rfl) va_nil)) ?_
      obtain ⟨q461, hq461, hb460⟩ := Mi.bnd hb460
      refine ⟨(.ref p263), q282, (.ref p110), (F67 ++ (F91 ++ (F50 ++ F100))), (q9.1.1, q86.1, q45.1, q9.1.2.2.2), q461, rfl, r285, r112, hq461, fun H463 c462  => ?_⟩
      have r0 := Ty.fz r0 c462
      have r13 := Ty.ex r13 c462
      have r30 := Ty.ex r30 c462
      have r49 := Ty.ex r49 c462
      have r59 := Ty.ex r59 c462
      have r112 := Ty.ex r112 c462
      have r143 := Ty.ex r143 c462
      have r166 := Ty.ex r166 c462
      have r178 := Ty.ex r178 c462
      have r191 := Ty.ex r191 c462
      have r285 := Ty.fz r285 c462
      have r351 := Ty.ex r351 c462
      have r440 := Ty.fz r440 c462
      have c0 := c0.trans c462.none
      refine ⟨_, rfl, ?_⟩
      refine c_if (fun hb => ?_) (fun hb => ?_)
      rotate_left
      ·
        replace hb460 := Mi.ifF hb hb460
        obtain rfl := Option.some.inj hb460
        exact kq _ ⟨c0, r0, r13, r30, r49, r59, r112, r143, r166, r178, r191, r285, r351, r440⟩
      replace hb460 := Mi.ifT hb hb460
      refine w_andV ?_
      refine w_call ?_
      refine w_args (va_cons (val_var rfl) (va_cons (val_var rfl) va_nil)) ?_
      obtain ⟨q464, hq464, hb460⟩ := Mi.bnd hb460
      refine ⟨(.ref p263), q282, (.ref p110), (F67 ++ (F91 ++ (F50 ++ F100))), (q9.1.1, q86.1, q45.1, q9.1.2.2.2), q464, rfl, r285, r112, hq464, fun H466 c465  => ?_⟩
      have r0 := Ty.fz r0 c465
      have r13 := Ty.ex r13 c465
      have r30 := Ty.ex r30 c465
      have r49 := Ty.ex r49 c465
      have r59 := Ty.ex r59 c465
      have r112 := Ty.ex r112 c465
      have r143 := Ty.ex r143 c465
      have r166 := Ty.ex r166 c465
      have r178 := Ty.ex r178 c465
      have r191 := Ty.ex r191 c465
      have r285 := Ty.fz r285 c465
      have r351 := Ty.ex r351 c465
      have r440 := Ty.fz r440 c465
      have c0 := c0.trans c465.none
      refine ⟨_, rfl, ?_⟩
      refine c_if (fun hb => ?_) (fun hb => ?_)
      rotate_left
      ·
        replace hb460 := Mi.ifF hb hb460
        obtain rfl := Option.some.inj hb460
        exact kq _ ⟨c0, r0, r13, r30, r49, r59, r112, r143, r166, r178, r191, r285, r351, r440⟩
      replace hb460 := Mi.ifT hb hb460
      refine w_call ?_
      refine w_args (va_cons (val_var rfl) (va_cons (val_var rfl) va_nil)) ?_
      obtain ⟨q467, hq467, hb460⟩ := Mi.bnd hb460
      refine ⟨(.ref p419), q437, (.ref p349), (F287 ++ (F302 ++ (F317 ++ [p331]))), (q26.1.1, q26.1.2.1, q26.1.2.2.1, ([] : (List Int))), q467, rfl, r440, r351, hq467, fun H469 c468  => ?_⟩
      have r0 := Ty.fz r0 c468
      have r13 := Ty.ex r13 c468
      have r30 := Ty.ex r30 c468
      have r49 := Ty.ex r49 c468
      have r59 := Ty.ex r59 c468
      have r112 := Ty.ex r112 c468
      have r143 := Ty.ex r143 c468
      have r166 := Ty.ex r166 c468
      have r178 := Ty.ex r178 c468
      have r191 := Ty.ex r191 c468
      have r285 := Ty.fz r285 c468
      have r351 := Ty.ex r351 c468
      have r440 := Ty.fz r440 c468
      have c0 := c0.trans c468.none
      obtain rfl := Option.some.inj hb460
      exact kq _ ⟨c0, r0, r13, r30, r49, r59, r112, r143, r166, r178, r191, r285, r351, r440⟩
    obtain ⟨c0, r0, r13, r30, r49, r59, r112, r143, r166, r178, r191, r285, r351, r440⟩ := hj
    obtain rfl := Option.some.inj hm
    exact hQ _ c0 
end
end G

set_option maxHeartbeats 0
namespace G
open PySem PySem.Spec PyProof.Rows L2
theorem fun_of {K : PySem.W.Frag} {x q : Str} {st : Stmt} {f : Addr} {fd : FuncData} (F : FunD K x q (defArgs st) (defBody st) (defScope st) [] [] f fd) : Fun K x q st f fd := by
  obtain ⟨oc, od, dV, kV, doc, pm, an, cdv, ct, osl, e, lk, hcd, hd, _⟩ := F.ex
  rcases hd with ⟨_, rfl⟩ | ⟨z, _⟩
  · exact ⟨⟨oc, od, kV, doc, pm, an, cdv, ct, osl, e, lk, hcd⟩, F.kp⟩
  · exact absurd rfl z
def dOf (x : Str) (i : Nat) : He.DefD := ⟨(x, none), x, x, defArgs (topS i), defBody (topS i), defScope (topS i), [], []⟩
def dOfD (x : Str) (i : Nat) (dv : List He.Dv) : He.DefD := ⟨(x, none), x, x, defArgs (topS i), defBody (topS i), defScope (topS i), dv, []⟩
def dOfM (c m qual : Str) (st : Stmt) (kw : List (Str × He.Dv)) : He.DefD := ⟨(c, some m), m, qual, defArgs st, defBody st, defScope st, [], kw⟩
def fnL : List He.DefD := [dOf "is_zone" 5, dOf "good_numbers" 11, dOf "good_depths" 12, dOf "good_lanes" 13, dOf "good_tide" 14, dOf "good_harbours" 15, dOf "ordered_lanes" 16, dOf "joined_places" 17, dOfM "Chart" "__init__" "Chart.__init__" s_Chart_init [("tide", .adr (kwdAt ("Chart", some "__init__") "tide")), ("harbours", .adr (kwdAt ("Chart", some "__init__") "harbours"))], dOfM "Chart" "neighbours" "Chart.neighbours" s_Chart_neighbours [], dOfM "Chart" "is_harbour" "Chart.is_harbour" s_Chart_is_harbour [], dOf "_law_hand" 20, dOf "_law_pick" 21, dOf "_law_int" 22, dOf "_law_some" 23, dOf "_law_sea" 24, dOf "_law_wide" 25, dOf "_law_flows" 26, dOf "_law_thinned" 27, dOf "_law_flipped" 28, dOf "_law_stirred" 29, dOf "_law_row" 30, dOf "_law_ordered" 31, dOf "_law_parts" 32, dOf "_law_beside" 33, dOf "_law_around" 34, dOf "law" 35]
def faL : List He.Fa := [.glo "is_zone", .glo "good_numbers", .glo "good_depths", .glo "good_lanes", .glo "good_tide", .glo "good_harbours", .glo "ordered_lanes", .glo "joined_places", .mkr "Chart", .meth "Chart" "neighbours", .meth "Chart" "is_harbour", .glo "_law_hand", .glo "_law_pick", .glo "_law_int", .glo "_law_some", .glo "_law_sea", .glo "_law_wide", .glo "_law_flows", .glo "_law_thinned", .glo "_law_flipped", .glo "_law_stirred", .glo "_law_row", .glo "_law_ordered", .glo "_law_parts", .glo "_law_beside", .glo "_law_around", .glo "law", .free "len", .free "range", .free "int", .free "bool", .free "isinstance", .free "max", .free "min", .free "list", .free "tuple", .free "sorted", .free "set", .free "enumerate", .free "zip", .free "reversed", .free "sum", .free "any", .free "all", .free "str", .int "GREATEST_DEPTH" 99, .int "GREATEST_TIDE" 20, .int "MOST_PLACES" 12, .int "MOST_TIDE_NUMBERS" 12, .glo "Chart", .cls "Chart", .noat "Chart" "size", .noat "Chart" "depths", .noat "Chart" "lanes", .noat "Chart" "tide", .noat "Chart" "harbours", .noat "Chart" "joined"]
abbrev R : PySem.W.OpenRow := PySem.W.OpenLaw.row PySem.Challenge.rw_fogfleet_k02_neighbours_of_a_place
def exL (K : PySem.W.Frag) : Bool := tupAt K (kwdAt ("Chart", some "__init__") "tide" K) (([0] : List Int).map He.Dv.int) && tupAt K (kwdAt ("Chart", some "__init__") "harbours" K) (([] : List Int).map He.Dv.int)
abbrev hk : PySem.W.Hook := hookE 6 faL fnL exL
def ob (s : PySem.W.SharedT) : He.AlD × Bool := obsEG 6 faL fnL exL (HandSHeadRun.getT s)
theorem ob_eq (s : PySem.W.SharedT) : ob s = hk.obs s.abs := obsEG_eq (HandSHeadRun.getT_eq s)
def looseL : List Str := (["_wall", "FleetError", "InvalidChart", "is_zone", "MOST_PLACES", "GREATEST_DEPTH", "MOST_TIDE_NUMBERS", "GREATEST_TIDE", "good_numbers", "good_depths", "good_lanes", "good_tide", "good_harbours", "ordered_lanes", "joined_places", "Chart", "_law_hand", "_law_pick", "_law_int", "_law_some", "_law_sea", "_law_wide", "_law_flows", "_law_thinned", "_law_flipped", "_law_stirred", "_law_row", "_law_ordered", "_law_parts", "_law_beside", "_law_around"] : List Str)
theorem run (w : World) : HandSHeadRun.RunEq R (PySem.W.view R.prog [35]) hk ob 6000 looseL w := by
  intro os
  kernel_rfl
theorem dfn_of {K : PySem.W.Frag} {h : Heap} {mg : Str → Option Value} (X : K.In h) (G : h.Ns mainGlobals mg) (c : He.SaysD faL fnL K) (i j k : Nat) (x : Str) (hi : fnL[i]? = some (dOf x k)) (hj : faL[j]? = some (.glo x)) : Dfn K mg x (topS k) := by
  obtain ⟨fd, F⟩ := c.def_ i hi
  exact ⟨⟨_, fd, fun_of F, He.glo_ok X G (c.fact j hj)⟩⟩
theorem dfnD_of {K : PySem.W.Frag} {h : Heap} {mg : Str → Option Value} (X : K.In h) (G : h.Ns mainGlobals mg) (c : He.SaysD faL fnL K) (i j k : Nat) (x : Str) (dv : List He.Dv) (hi : fnL[i]? = some (dOfD x k dv)) (hj : faL[j]? = some (.glo x)) : DfnD K mg x (topS k) (dv.map (He.Dv.v K)) := by
  obtain ⟨fd, F⟩ := c.def_ i hi
  exact ⟨⟨_, fd, F, He.glo_ok X G (c.fact j hj)⟩⟩
theorem dfnM_of {K : PySem.W.Frag} (c : He.SaysD faL fnL K) (i j : Nat) (C m qual : Str) (st : Stmt) (hi : fnL[i]? = some (dOfM C m qual st [])) (hj : faL[j]? = some (.meth C m)) : DfnM K (He.ga K C) m qual st := by
  obtain ⟨fd, F⟩ := c.def_ i hi
  exact ⟨⟨_, fd, fun_of F, He.meth_ok (c.fact j hj)⟩⟩
theorem dfnI_of {K : PySem.W.Frag} (c : He.SaysD faL fnL K) (i j : Nat) (C qual : Str) (st : Stmt) (kw : List (Str × He.Dv)) (hi : fnL[i]? = some (dOfM C "__init__" qual st kw)) (hj : faL[j]? = some (.mkr C)) : DfnI K (He.ga K C) qual st (kw.map fun q => (q.1, q.2.v K)) := by
  obtain ⟨fd, F⟩ := c.def_ i hi
  exact ⟨⟨_, fd, F, He.mkr_ok (c.fact j hj)⟩⟩
theorem facts {P : Program} {w : World} {K : PySem.W.Frag} {h : Heap} {mg : Str → Option Value} (X : K.In h) (G : h.Ns mainGlobals mg) (c : He.SaysD faL fnL K) (ce : exL K = true) {fa : Addr} (hfa : mg ("law" : Str) = some (.ref fa)) :
    ∃ fd : FuncData, (∀ (s : Shared) (v : Value), BindsTo s fd ⟨[v], []⟩ [("_law_script", v)]) ∧ ∀ base : Heap, K.In base → base.Ns mainGlobals mg → FnOk P w K mg base CX0 5 fa fd ["_law_script"] (sp_law K) := by
  have B : Bi mg := ⟨He.free_ok X G (c.fact 27 rfl), He.free_ok X G (c.fact 28 rfl), He.free_ok X G (c.fact 29 rfl), He.free_ok X G (c.fact 30 rfl), He.free_ok X G (c.fact 31 rfl), He.free_ok X G (c.fact 32 rfl), He.free_ok X G (c.fact 33 rfl), He.free_ok X G (c.fact 34 rfl), He.free_ok X G (c.fact 35 rfl), He.free_ok X G (c.fact 36 rfl), He.free_ok X G (c.fact 37 rfl), He.free_ok X G (c.fact 38 rfl), He.free_ok X G (c.fact 39 rfl), He.free_ok X G (c.fact 40 rfl), He.free_ok X G (c.fact 41 rfl), He.free_ok X G (c.fact 42 rfl), He.free_ok X G (c.fact 43 rfl), He.free_ok X G (c.fact 44 rfl)⟩
  obtain ⟨ce1_, ce1⟩ := He.ba (show (_ && _) = true from ce)
  have ce0 := ce1_
  have CN : Cs K mg := ⟨He.int_ok X G (c.fact 45 rfl), He.int_ok X G (c.fact 46 rfl), He.int_ok X G (c.fact 47 rfl), He.int_ok X G (c.fact 48 rfl), tupAt_ints ce0, tupAt_ints ce1⟩
  have T_Chart : Tx K mg (He.ga K "Chart") "Chart" nm_Chart := ⟨He.cls_ok (c.fact 50 rfl), He.glo_ok X G (c.fact 49 rfl), fun f hf => by
    simp only [List.mem_cons, List.not_mem_nil, or_false] at hf
    rcases hf with rfl | rfl | rfl | rfl | rfl | rfl
    · exact He.noat_ok (c.fact 51 rfl)
    · exact He.noat_ok (c.fact 52 rfl)
    · exact He.noat_ok (c.fact 53 rfl)
    · exact He.noat_ok (c.fact 54 rfl)
    · exact He.noat_ok (c.fact 55 rfl)
    · exact He.noat_ok (c.fact 56 rfl)⟩
  have C_is_zone : Cal P w K mg "is_zone" ["zone", "size"] 1 (sp_is_zone K) := ok_is_zone B CN (dfn_of X G c 0 0 5 "is_zone" rfl rfl)
  have C_good_numbers : Cal P w K mg "good_numbers" ["numbers", "most", "greatest"] 1 (sp_good_numbers K) := ok_good_numbers B CN (dfn_of X G c 1 1 11 "good_numbers" rfl rfl)
  have C_good_depths : Cal P w K mg "good_depths" ["depths"] 2 (sp_good_depths K) := ok_good_depths B CN (dfn_of X G c 2 2 12 "good_depths" rfl rfl) C_good_numbers
  have C_good_lanes : Cal P w K mg "good_lanes" ["lanes", "size"] 1 (sp_good_lanes K) := ok_good_lanes B CN (dfn_of X G c 3 3 13 "good_lanes" rfl rfl)
  have C_good_tide : Cal P w K mg "good_tide" ["tide"] 2 (sp_good_tide K) := ok_good_tide B CN (dfn_of X G c 4 4 14 "good_tide" rfl rfl) C_good_numbers
  have C_good_harbours : Cal P w K mg "good_harbours" ["harbours", "size"] 2 (sp_good_harbours K) := ok_good_harbours B CN (dfn_of X G c 5 5 15 "good_harbours" rfl rfl) C_is_zone
  have C_ordered_lanes : Cal P w K mg "ordered_lanes" ["lanes"] 1 (sp_ordered_lanes K) := ok_ordered_lanes B CN (dfn_of X G c 6 6 16 "ordered_lanes" rfl rfl)
  have C_joined_places : Cal P w K mg "joined_places" ["size", "lanes"] 1 (sp_joined_places K) := ok_joined_places B CN (dfn_of X G c 7 7 17 "joined_places" rfl rfl)
  have I_Chart : CalI P w K mg (He.ga K "Chart") "Chart.__init__" s_Chart_init (kw_Chart K) ["self", "depths", "lanes", "tide", "harbours"] 3 (sp_Chart_init K (He.ga K "Chart")) := ok_Chart_init B CN T_Chart C_good_depths C_good_lanes C_good_tide C_good_harbours C_ordered_lanes C_joined_places (dfnI_of c 8 8 "Chart" "Chart.__init__" s_Chart_init [("tide", .adr (kwdAt ("Chart", some "__init__") "tide")), ("harbours", .adr (kwdAt ("Chart", some "__init__") "harbours"))] rfl rfl)
  have M_Chart_neighbours : CalM P w K mg (He.ga K "Chart") "neighbours" ["self", "place"] 1 (sp_Chart_neighbours K (He.ga K "Chart")) := ok_Chart_neighbours B CN T_Chart (dfnM_of c 9 9 "Chart" "neighbours" "Chart.neighbours" s_Chart_neighbours rfl rfl)
  have M_Chart_is_harbour : CalM P w K mg (He.ga K "Chart") "is_harbour" ["self", "place"] 1 (sp_Chart_is_harbour K (He.ga K "Chart")) := ok_Chart_is_harbour B CN T_Chart (dfnM_of c 10 10 "Chart" "is_harbour" "Chart.is_harbour" s_Chart_is_harbour rfl rfl)
  have C_l_hand : Cal P w K mg "_law_hand" ["_law_script", "_law_k"] 1 (sp_l_hand K) := ok_l_hand B CN (dfn_of X G c 11 11 20 "_law_hand" rfl rfl)
  have C_l_pick : Cal P w K mg "_law_pick" ["_law_hand_here", "_law_size"] 1 (sp_l_pick K) := ok_l_pick B CN (dfn_of X G c 12 12 21 "_law_pick" rfl rfl)
  have C_l_int : Cal P w K mg "_law_int" ["_law_x"] 1 (sp_l_int K) := ok_l_int B CN (dfn_of X G c 13 13 22 "_law_int" rfl rfl)
  have C_l_some : Cal P w K mg "_law_some" ["_law_hand_here", "_law_size", "_law_share"] 2 (sp_l_some K) := ok_l_some B CN (dfn_of X G c 14 14 23 "_law_some" rfl rfl) C_l_pick
  have C_l_sea : Cal P w K mg "_law_sea" ["_law_hand_here", "_law_most"] 3 (sp_l_sea K) := ok_l_sea B CN (dfn_of X G c 15 15 24 "_law_sea" rfl rfl) C_l_pick C_l_some
  have C_l_wide : Cal P w K mg "_law_wide" ["_law_hand_here"] 4 (sp_l_wide K) := ok_l_wide B CN (dfn_of X G c 16 16 25 "_law_wide" rfl rfl) C_l_pick C_l_sea
  have C_l_flows : Cal P w K mg "_law_flows" ["_law_hand_here", "_law_sea_here"] 2 (sp_l_flows K) := ok_l_flows B CN (dfn_of X G c 17 17 26 "_law_flows" rfl rfl) C_l_pick
  have C_l_thinned : Cal P w K mg "_law_thinned" ["_law_hand_here", "_law_joins", "_law_most"] 2 (sp_l_thinned K) := ok_l_thinned B CN (dfn_of X G c 18 18 27 "_law_thinned" rfl rfl) C_l_pick
  have C_l_flipped : Cal P w K mg "_law_flipped" ["_law_hand_here", "_law_joins"] 2 (sp_l_flipped K) := ok_l_flipped B CN (dfn_of X G c 19 19 28 "_law_flipped" rfl rfl) C_l_pick
  have C_l_stirred : Cal P w K mg "_law_stirred" ["_law_hand_here", "_law_rows"] 2 (sp_l_stirred K) := ok_l_stirred B CN (dfn_of X G c 20 20 29 "_law_stirred" rfl rfl) C_l_pick
  have C_l_row : Cal P w K mg "_law_row" ["_law_told", "_law_due"] 2 (sp_l_row K) := ok_l_row B CN (dfn_of X G c 21 21 30 "_law_row" rfl rfl) C_l_int
  have C_l_ordered : Cal P w K mg "_law_ordered" ["_law_joins", "_law_size"] 1 (sp_l_ordered K) := ok_l_ordered B CN (dfn_of X G c 22 22 31 "_law_ordered" rfl rfl)
  have C_l_parts : Cal P w K mg "_law_parts" ["_law_chart", "_law_sea_here"] 3 (sp_l_parts K (He.ga K "Chart")) := ok_l_parts B CN (dfn_of X G c 23 23 32 "_law_parts" rfl rfl) T_Chart C_l_int C_l_row C_l_ordered
  have C_l_beside : Cal P w K mg "_law_beside" ["_law_sea_here", "_law_place"] 1 (sp_l_beside K) := ok_l_beside B CN (dfn_of X G c 24 24 33 "_law_beside" rfl rfl)
  have C_l_around : Cal P w K mg "_law_around" ["_law_chart", "_law_sea_here"] 3 (sp_l_around K (He.ga K "Chart")) := ok_l_around B CN (dfn_of X G c 25 25 34 "_law_around" rfl rfl) T_Chart M_Chart_neighbours M_Chart_is_harbour C_l_row C_l_beside
  have C_law : Cal P w K mg "law" ["_law_script"] 5 (sp_law K) := ok_law B CN (dfn_of X G c 26 26 35 "law" rfl rfl) T_Chart I_Chart C_l_hand C_l_wide C_l_flows C_l_thinned C_l_flipped C_l_stirred C_l_parts C_l_around
  exact fn_law hfa C_law
end G

open PySem PySem.W PySem.Calls PyProof.Rows
theorem PySem.Challenge.cw_fogfleet_k02_neighbours_of_a_place_holds : PySem.Challenge.rw_fogfleet_k02_neighbours_of_a_place.Holds := by
  w_on; o_law
  refine HandSHeadRun.head_any (r := OpenLaw.row PySem.Challenge.rw_fogfleet_k02_neighbours_of_a_place) (q := view (OpenLaw.row PySem.Challenge.rw_fogfleet_k02_neighbours_of_a_place).prog [35]) (H := G.hk) (ob := G.ob) (M := 6000) (loose := G.looseL) (d := HandSHeadRun.topDef (OpenLaw.row PySem.Challenge.rw_fogfleet_k02_neighbours_of_a_place).prog 35) (kwd := []) G.ob_eq
    (by kernel_rfl) (fun s => by kernel_rfl) G.run (by kernel_rfl) (by kernel_rfl) (by kernel_rfl) (by rfl) (by first | assumption | decide +kernel) (by decide +kernel) ⟨rfl, rfl, rfl, rfl, rfl, by decide +kernel⟩ ?hw ?hc
  case hw => w_witness2
  case hc =>
    refine L2.walk_ofE (l := PySem.Challenge.rw_fogfleet_k02_neighbours_of_a_place) (n := 63) (k := 5) (x := "_law_script") (CX := L2.CX0) rfl (by decide) (by kernel_rfl) ⟨rfl, by decide, by decide⟩ ?F (fun _ _ _ _ z => z)
    intro w mg fa h Y G0 hmg0
    obtain ⟨K, KX, c, ce⟩ := Y
    have hmg : mg ("law" : PySem.Str) = some (.ref fa) := by
      have e : (HandSHeadRun.topDef (OpenLaw.row PySem.Challenge.rw_fogfleet_k02_neighbours_of_a_place).prog 35).name = ("law" : PySem.Str) := by kernel_rfl
      rw [← e]
      exact hmg0
    obtain ⟨fd, hb, hF⟩ := G.facts (P := (PySem.Challenge.rw_fogfleet_k02_neighbours_of_a_place).prog) (w := w) KX G0 c ce hmg
    exact ⟨K, fd, G.sp_law K, KX, hb, fun H a ns hl hO hS => ⟨_, ns, true, rfl, G.yScr_of hO hS, Mi.law_true ns hl, fun _ _ => rfl⟩, hF⟩
