import PyProof.Rows.All
import Wide.All
import OpenK.AllK
import Wide.FinOn
import HandS.ForMost
import HandS.ForExc
import HandS.Wide
import HandS.IsInst
import HandS.Flow
import HandS.Defaults
import HandS.SortInts
import HandS.Strs
import HandS.TupSets
import HandS.MakeKw
import HandS.MakeKwOnly
import HandS.Conv
import HandS.Steps
import KE.GoesMore
import HandS.Text
import HandS.Iter
import HandS.SortRule
import HandS.TupLe
import HandS.HeadHook1
import HandS.HeadHook2
import HandS.Deep
import KE.KRevSl
import KE.KStateDown
import Lean
import HandS.Head0
import HandS.Head1
import HandS.Head2
import HandS.HeadEnd
import PySem.Challenge.RW_fogfleet_k09_fuel_along_a_driving
set_option Elab.async false
set_option linter.all false
set_option maxRecDepth 100000
set_option maxHeartbeats 4000000
/-! the plain meaning of the program's steps: none is what this text says nothing about -/
namespace Mi
def pyLet {α β : Type} (e : α) (f : α → β) : β := f e
def ixN (n : Nat) (i : Int) : Option Nat := if 0 ≤ i then (if i < n then some i.toNat else none) else if -(n : Int) ≤ i then some (i + n).toNat else none
def at_ {α : Type} (xs : List α) (i : Int) : Option α := (ixN xs.length i).bind fun j => xs[j]?
def setAt {α : Type} (xs : List α) (i : Int) (x : α) : Option (List α) := (ixN xs.length i).bind fun j => some (xs.set j x)
def sIx (n d : Nat) : Option Int → Nat
  | none => d
  | some v => if v < 0 then (v + (n : Int)).toNat else min v.toNat n
def cut {α : Type} (xs : List α) (lo hi : Option Int) : List α := (xs.drop (sIx xs.length 0 lo)).take (sIx xs.length xs.length hi - sIx xs.length 0 lo)
def big : Nat := 1000000
def app {α : Type} (xs : List α) (x : α) : Option (List α) := if xs.length < big then some (xs ++ [x]) else none
def cat {α : Type} (xs ys : List α) : Option (List α) := if xs.length + ys.length ≤ big then some (xs ++ ys) else none
def mul (i j : Int) : Option Int := if (-(2 ^ 64) < i ∧ i < 2 ^ 64) ∨ (-(2 ^ 64) < j ∧ j < 2 ^ 64) then some (i * j) else none
def mod (i j : Int) : Option Int := if 0 < j then some (i % j) else none
def fdiv (i j : Int) : Option Int := if 0 < j ∧ j < 2 ^ 200 then some (i / j) else none
def guardO (c : Bool) : Option Unit := if c = true then some () else none
def smallI (i : Int) : Bool := decide (-(2 ^ 60) ≤ i) && decide (i < 2 ^ 60)
/-- range(lo, hi) -/
def rng (lo hi : Int) : List Int := (List.range (hi - lo).toNat).map fun (k : Nat) => lo + (k : Int)
/-- range(lo, hi, -1) -/
def rngDown (lo hi : Int) : List Int := (List.range (lo - hi).toNat).map fun (k : Nat) => lo - (k : Int)
/-- a for that runs through -/
def forN {α σ : Type} (f : σ → α → Option σ) : σ → List α → Option σ
  | s, [] => some s
  | s, x :: xs => (f s x).bind fun s' => forN f s' xs
/-- a for that may return (inl) -/
def forR {α σ ρ : Type} (f : σ → α → Option (ρ ⊕ σ)) : σ → List α → Option (ρ ⊕ σ)
  | s, [] => some (.inr s)
  | s, x :: xs => (f s x).bind fun
    | .inl r => some (.inl r)
    | .inr s' => forR f s' xs
/-- a for that may break (inl) -/
def forB {α σ : Type} (f : σ → α → Option (σ ⊕ σ)) : σ → List α → Option σ
  | s, [] => some s
  | s, x :: xs => (f s x).bind fun
    | .inl s' => some s'
    | .inr s' => forB f s' xs
/-- a comprehension: none of the inner option is an item left out; the state is what the items' making changes -/
def comp {α β σ : Type} (f : σ → α → Option (Option β × σ)) : σ → List α → Option (List β × σ)
  | s, [] => some ([], s)
  | s, x :: xs => (f s x).bind fun p => (comp f p.2 xs).bind fun q => some ((match p.1 with | some y => y :: q.1 | none => q.1), q.2)
/-- a comprehension that changes nothing -/
def comp0 {α β : Type} (f : α → Option (Option β)) : List α → Option (List β)
  | [] => some []
  | x :: xs => (f x).bind fun p => (comp0 f xs).bind fun q => some (match p with | some y => y :: q | none => q)
def whileN {σ : Type} (c : σ → Option Bool) (b : σ → Option σ) : Nat → σ → Option σ
  | 0, _ => none
  | n + 1, s => (c s).bind fun t => if t = true then (b s).bind fun s' => whileN c b n s' else some s
def whileR {σ ρ : Type} (c : σ → Option Bool) (b : σ → Option (ρ ⊕ σ)) : Nat → σ → Option (ρ ⊕ σ)
  | 0, _ => none
  | n + 1, s => (c s).bind fun t => if t = true then (b s).bind fun
      | .inl r => some (.inl r)
      | .inr s' => whileR c b n s'
    else some (.inr s)
theorem bnd {α β : Type} {m : Option α} {f : α → Option β} {r : β} (h : m.bind f = some r) : ∃ x, m = some x ∧ f x = some r := by
  cases m with
  | none => cases h
  | some x => exact ⟨x, rfl, h⟩
theorem letE {α β : Type} {e : α} {f : α → Option β} {r : Option β} (h : pyLet e f = r) : ∃ x, e = x ∧ f x = r := ⟨e, rfl, h⟩
theorem ifT {α : Type} {b : Bool} {x y : Option α} {r : Option α} (hb : b = true) (h : (if b = true then x else y) = r) : x = r := by
  rw [if_pos hb] at h; exact h
theorem ifF {α : Type} {b : Bool} {x y : Option α} {r : Option α} (hb : b = false) (h : (if b = true then x else y) = r) : y = r := by
  rw [hb, if_neg Bool.false_ne_true] at h; exact h
end Mi
namespace Mi
def rngO (lo hi : Int) : Option (List Int) := if (-(2 ^ 60) ≤ lo ∧ lo < 2 ^ 60) ∧ (-(2 ^ 60) ≤ hi ∧ hi < 2 ^ 60) then some (rng lo hi) else none
def rngDownO (lo hi : Int) : Option (List Int) := if (-(2 ^ 60) ≤ lo ∧ lo < 2 ^ 60) ∧ (-(2 ^ 60) ≤ hi ∧ hi < 2 ^ 60) then some (rngDown lo hi) else none
theorem forN_go {α σ : Type} {f : σ → α → Option σ} {s e : σ} {xs : List α} {i : Nat} {x : α} (h : forN f s (xs.drop i) = some e) (hx : xs[i]? = some x) : ∃ s', f s x = some s' ∧ forN f s' (xs.drop (i + 1)) = some e := by
  have hi : i < xs.length := (List.getElem?_eq_some_iff.mp hx).1
  have e1 : xs.drop i = x :: xs.drop (i + 1) := by
    rw [List.drop_eq_getElem_cons hi]
    congr 1
    exact (List.getElem?_eq_some_iff.mp hx).2
  rw [e1] at h
  exact bnd h
theorem forN_end {α σ : Type} {f : σ → α → Option σ} {s e : σ} {xs : List α} (h : forN f s (xs.drop xs.length) = some e) : s = e := by
  rw [List.drop_length] at h
  exact Option.some.inj h
theorem forR_go {α σ ρ : Type} {f : σ → α → Option (ρ ⊕ σ)} {s : σ} {e : ρ ⊕ σ} {xs : List α} {i : Nat} {x : α} (h : forR f s (xs.drop i) = some e) (hx : xs[i]? = some x) :
    ∃ o, f s x = some o ∧ ((∃ r, o = .inl r ∧ e = .inl r) ∨ ∃ s', o = .inr s' ∧ forR f s' (xs.drop (i + 1)) = some e) := by
  have hi : i < xs.length := (List.getElem?_eq_some_iff.mp hx).1
  have e1 : xs.drop i = x :: xs.drop (i + 1) := by
    rw [List.drop_eq_getElem_cons hi]
    congr 1
    exact (List.getElem?_eq_some_iff.mp hx).2
  rw [e1] at h
  obtain ⟨o, h1, h2⟩ := bnd h
  refine ⟨o, h1, ?_⟩
  cases o with
  | inl r => exact .inl ⟨r, rfl, (Option.some.inj h2).symm⟩
  | inr s' => exact .inr ⟨s', rfl, h2⟩
theorem forR_end {α σ ρ : Type} {f : σ → α → Option (ρ ⊕ σ)} {s : σ} {e : ρ ⊕ σ} {xs : List α} (h : forR f s (xs.drop xs.length) = some e) : e = .inr s := by
  rw [List.drop_length] at h
  exact (Option.some.inj h).symm
theorem forB_go {α σ : Type} {f : σ → α → Option (σ ⊕ σ)} {s e : σ} {xs : List α} {i : Nat} {x : α} (h : forB f s (xs.drop i) = some e) (hx : xs[i]? = some x) :
    ∃ o, f s x = some o ∧ ((o = .inl e) ∨ ∃ s', o = .inr s' ∧ forB f s' (xs.drop (i + 1)) = some e) := by
  have hi : i < xs.length := (List.getElem?_eq_some_iff.mp hx).1
  have e1 : xs.drop i = x :: xs.drop (i + 1) := by
    rw [List.drop_eq_getElem_cons hi]
    congr 1
    exact (List.getElem?_eq_some_iff.mp hx).2
  rw [e1] at h
  obtain ⟨o, h1, h2⟩ := bnd h
  refine ⟨o, h1, ?_⟩
  cases o with
  | inl r => exact .inl (by rw [Option.some.inj h2])
  | inr s' => exact .inr ⟨s', rfl, h2⟩
theorem forB_end {α σ : Type} {f : σ → α → Option (σ ⊕ σ)} {s e : σ} {xs : List α} (h : forB f s (xs.drop xs.length) = some e) : s = e := by
  rw [List.drop_length] at h
  exact Option.some.inj h
end Mi
namespace Mi
def orR {ρ σ : Type} (o : ρ ⊕ σ) (k : σ → Option ρ) : Option ρ := match o with
  | .inl r => some r
  | .inr s => k s
def orL {ρ σ τ : Type} (o : ρ ⊕ σ) (k : σ → Option (ρ ⊕ τ)) : Option (ρ ⊕ τ) := match o with
  | .inl r => some (.inl r)
  | .inr s => k s
theorem orR_inl {ρ σ : Type} {r q : ρ} {k : σ → Option ρ} (h : orR (.inl r) k = some q) : some r = some q := h
theorem orR_inr {ρ σ : Type} {s : σ} {q : ρ} {k : σ → Option ρ} (h : orR (.inr s) k = some q) : k s = some q := h
theorem orL_inl {ρ σ τ : Type} {r : ρ} {q : ρ ⊕ τ} {k : σ → Option (ρ ⊕ τ)} (h : orL (.inl r) k = some q) : some (.inl r) = some q := h
theorem orL_inr {ρ σ τ : Type} {s : σ} {q : ρ ⊕ τ} {k : σ → Option (ρ ⊕ τ)} (h : orL (.inr s) k = some q) : k s = some q := h
theorem or_inl {ρ σ : Type} {r : ρ} {e : ρ ⊕ σ} {P : σ → Prop} (h : (∃ r', (Sum.inl r : ρ ⊕ σ) = .inl r' ∧ e = .inl r') ∨ ∃ s', (Sum.inl r : ρ ⊕ σ) = .inr s' ∧ P s') : e = .inl r := by
  rcases h with ⟨r', h1, h2⟩ | ⟨s', h1, _⟩
  · cases h1; exact h2
  · cases h1
theorem or_inr {ρ σ : Type} {s : σ} {e : ρ ⊕ σ} {P : σ → Prop} (h : (∃ r', (Sum.inr s : ρ ⊕ σ) = .inl r' ∧ e = .inl r') ∨ ∃ s', (Sum.inr s : ρ ⊕ σ) = .inr s' ∧ P s') : P s := by
  rcases h with ⟨r', h1, h2⟩ | ⟨s', h1, h2⟩
  · cases h1
  · cases h1; exact h2
end Mi
namespace Mi
def shl (i j : Int) : Option Int := if 0 ≤ j ∧ j ≤ 1000 ∧ -(2 ^ 64) < i ∧ i < 2 ^ 64 then some (i * 2 ^ j.toNat) else none
def shr (i j : Int) : Option Int := if 0 ≤ j then some (i / 2 ^ j.toNat) else none
def sortI (xs : List Int) : List Int := xs.mergeSort fun a b => decide (a ≤ b)
def sadd (xs : List Int) (k : Int) : Option (List Int) := if xs.length < 4000 then some (if xs.contains k = true then xs else xs ++ [k]) else none
def popL {α : Type} (xs : List α) : Option (α × List α) := (xs[xs.length - 1]?).bind fun y => some (y, xs.dropLast)
def popAt {α : Type} (xs : List α) (i : Int) : Option (α × List α) := (ixN xs.length i).bind fun j => (xs[j]?).bind fun y => some (y, xs.eraseIdx j)
def lMin (xs : List Int) : Option Int := xs.head?.map fun x => xs.foldl min x
def lMax (xs : List Int) : Option Int := xs.head?.map fun x => xs.foldl max x
/-- enumerate -/
def enumF {α : Type} : Int → List α → List (Int × α)
  | _, [] => []
  | k, x :: xs => (k, x) :: enumF (k + 1) xs
end Mi
namespace Mi
/-! ### texts: lists of code points -/
def sLen (s : List Nat) : Option Int := if s.length ≤ big then some (s.length : Int) else none
def sAt (s : List Nat) (i : Int) : Option (List Nat) := if s.length ≤ big then (at_ s i).map fun c => [c] else none
def sCut (s : List Nat) (lo hi : Option Int) : Option (List Nat) := if s.length ≤ big then some (cut s lo hi) else none
def sCat (a b : List Nat) : Option (List Nat) := if a.length + b.length ≤ big then some (a ++ b) else none
def sIn (a s : List Nat) : Option Bool := match a with
  | [c] => some (s.contains c)
  | _ => none
def joinL (sep : List Nat) : List (List Nat) → List Nat
  | [] => []
  | [p] => p
  | p :: q :: r => p ++ (sep ++ joinL sep (q :: r))
def sJoin (sep : List Nat) (xs : List (List Nat)) : Option (List Nat) := if (xs.map (·.length)).sum + xs.length * sep.length ≤ big then some (joinL sep xs) else none
def signs (s : List Nat) : List (List Nat) := s.map fun c => [c]
def okS (s : List Nat) : Bool := s.all fun c => decide (c < 1114112)
def bI (b : Bool) : Int := if b = true then 1 else 0
end Mi
namespace Mi
/-- xs[i].append(x) -/
def appIn {α : Type} (xs : List (List α)) (i : Int) (x : α) : Option (List (List α)) := (ixN xs.length i).bind fun j => (xs[j]?).bind fun row => (app row x).bind fun ys => some (xs.set j ys)
def leP (a b : Int × Int) : Bool := decide (a.1 < b.1 ∨ (a.1 = b.1 ∧ a.2 ≤ b.2))
def sortP (xs : List (Int × Int)) : List (Int × Int) := xs.mergeSort leP
def saddP (xs : List (Int × Int)) (k : Int × Int) : Option (List (Int × Int)) := if xs.length < 70 then some (if xs.contains k = true then xs else xs ++ [k]) else none
def repL {α : Type} (xs : List α) (k : Int) : Option (List α) := if -(2 ^ 60) ≤ k ∧ k < 2 ^ 60 ∧ xs.length * k.toNat ≤ big then some (List.replicate k.toNat xs).flatten else none
def lIdx {α : Type} [BEq α] (xs : List α) (x : α) : Option Int := if xs.contains x = true then some ((xs.idxOf x : Nat) : Int) else none
def rngL (lo hi : Int) : Option (List Int) := if (-(2 ^ 60) ≤ lo ∧ lo < 2 ^ 60) ∧ (-(2 ^ 60) ≤ hi ∧ hi < 2 ^ 60) ∧ (hi - lo).toNat ≤ 1000000 then some (rng lo hi) else none
end Mi
namespace Mi
def evens {α : Type} : List α → List α
  | [] => []
  | [x] => [x]
  | x :: _ :: r => x :: evens r
def ext {α : Type} (xs ys : List α) : Option (List α) := if xs.length + ys.length ≤ big then some (xs ++ ys) else none
end Mi

namespace Mi
def m_Ship_init (d1 : Int) (d2 : Int) (d3 : Int) (d4 : Int) (d5 : (Option Int)) : Option (Int × Int × Int × Int × Int) :=
  if ((decide (d1 < (0 : Int))) || (decide ((99 : Int) < d1))) = true then
  (none)
  else
  if ((decide (d2 < (0 : Int))) || ((decide (d3 < d2)) || (decide ((3 : Int) < d3)))) = true then
  (none)
  else
  if ((decide (d4 < (0 : Int))) || (decide ((8 : Int) < d4))) = true then
  (none)
  else
  (if d5.isNone = true then (pyLet (d4 : Int) fun fuel14 =>
  some (some fuel14)) else (some d5) : Option (Option Int)).bind fun s11 =>
  (s11).bind fun x15 =>
  if ((decide (x15 < (0 : Int))) || (decide (d4 < x15))) = true then
  (none)
  else
  some (d1, d2, d3, d4, x15)
def m_is_zone_0_b1 (d1 : Int) (s11 : (List Int)) (x14 : Int) : Option (Bool ⊕ (List Int)) :=
  if ((decide (x14 < (0 : Int))) || ((decide (d1 ≤ x14)) || (s11.contains x14))) = true then
  (some (.inl false))
  else
  (sadd s11 x14).bind fun x21 =>
  some (.inr x21)
def m_is_zone_0 (d0 : (List Int)) (d1 : Int) : Option Bool :=
  (forR (m_is_zone_0_b1 d1) ([] : List Int) d0).bind fun e10 => orR e10 fun s11 =>
  some true
def m_is_zone_1_b1 (d1 : Int) (s10 : (List Int)) (x13 : Int) : Option (Bool ⊕ (List Int)) :=
  if ((decide (x13 < (0 : Int))) || ((decide (d1 ≤ x13)) || (s10.contains x13))) = true then
  (some (.inl false))
  else
  (sadd s10 x13).bind fun x20 =>
  some (.inr x20)
def m_is_zone_1 (d0 : (List Int)) (d1 : Int) : Option Bool :=
  (forR (m_is_zone_1_b1 d1) ([] : List Int) d0).bind fun e9 => orR e9 fun s10 =>
  some true
def m_good_numbers_b1 (d2 : Int) (s6 : Unit) (x9 : Int) : Option (Bool ⊕ Unit) :=
  if ((decide (x9 < (0 : Int))) || (decide (d2 < x9))) = true then
  (some (.inl false))
  else
  some (.inr ())
def m_good_numbers (d0 : (List Int)) (d1 : Int) (d2 : Int) : Option Bool :=
  if ((decide ((d0.length : Int) < (1 : Int))) || (decide (d1 < (d0.length : Int)))) = true then
  (some false)
  else
  (forR (m_good_numbers_b1 d2) () d0).bind fun e5 => orR e5 fun s6 =>
  some true
def m_good_depths (d0 : (List Int)) : Option Bool :=
  (m_good_numbers d0 (12 : Int) (99 : Int)).bind fun q2 =>
  some q2
def m_good_lanes_b1 (d1 : Int) (s11 : (List (Int × Int))) (x17 : (Int × Int)) : Option (Bool ⊕ (List (Int × Int))) :=
  pyLet ((min x17.1 x17.2) : Int) fun low26 =>
  pyLet ((max x17.1 x17.2) : Int) fun high27 =>
  ( if (decide (low26 < (0 : Int))) = true then some true else  if (decide (d1 ≤ high27)) = true then some true else  if (decide (low26 = high27)) = true then some true else some (s11.contains (low26, high27)) : Option Bool).bind fun b28 =>
  if b28 = true then
  (some (.inl false))
  else
  (saddP s11 (low26, high27)).bind fun x39 =>
  some (.inr x39)
def m_good_lanes (d0 : (List (Int × Int))) (d1 : Int) : Option Bool :=
  (forR (m_good_lanes_b1 d1) ([] : List (Int × Int)) d0).bind fun e10 => orR e10 fun s11 =>
  some true
def m_good_tide (d0 : (List Int)) : Option Bool :=
  (m_good_numbers d0 (12 : Int) (20 : Int)).bind fun q2 =>
  some q2
def m_good_harbours (d0 : (List Int)) (d1 : Int) : Option Bool :=
  (m_is_zone_0 d0 d1).bind fun q3 =>
  some q3
def m_ordered_lanes_b1  (s3 : (List (Int × Int))) (x12 : (Int × Int)) : Option (List (Int × Int)) :=
  (app s3 ((min x12.1 x12.2), (max x12.1 x12.2))).bind fun x30 =>
  some x30
def m_ordered_lanes (d0 : (List (Int × Int))) : Option (List (Int × Int)) :=
  (forN (m_ordered_lanes_b1) ([] : (List (Int × Int))) d0).bind fun s3 =>
  some (Mi.sortP s3)
def m_joined_places_b1  (s5 : (List (List Int))) (x14 : Int) : Option (List (List Int)) :=
  (app s5 ([] : (List Int))).bind fun x30 =>
  some x30
def m_joined_places_b2  (s40 : (List (List Int))) (x48 : (Int × Int)) : Option (List (List Int)) :=
  (at_ s40 x48.1).bind fun x56 =>
  (appIn s40 x48.1 x48.2).bind fun x57 =>
  (at_ x57 x48.2).bind fun x65 =>
  (appIn x57 x48.2 x48.1).bind fun x66 =>
  some x66
def m_joined_places_b3  (s75 : (List (List Int))) (x84 : (List Int)) : Option (List (List Int)) :=
  (app s75 x84).bind fun x99 =>
  some x99
def m_joined_places (d0 : Int) (d1 : (List (Int × Int))) : Option (List (List Int)) :=
  (rngO 0 d0).bind fun g3 =>
  (forN (m_joined_places_b1) ([] : (List (List Int))) g3).bind fun s5 =>
  (forN (m_joined_places_b2) s5 d1).bind fun s40 =>
  (forN (m_joined_places_b3) ([] : (List (List Int))) s40).bind fun s75 =>
  some s75
def m_Chart_init (d1 : (List Int)) (d2 : (List (Int × Int))) (d3 : (List Int)) (d4 : (List Int)) : Option (Int × (List Int) × (List (Int × Int)) × (List Int) × (List Int) × (List (List Int))) :=
  (m_good_depths d1).bind fun q6 =>
  if (!q6) = true then
  (none)
  else
  (m_good_lanes d2 (d1.length : Int)).bind fun q9 =>
  if (!q9) = true then
  (none)
  else
  (m_good_tide d3).bind fun q12 =>
  if (!q12) = true then
  (none)
  else
  (m_good_harbours d4 (d1.length : Int)).bind fun q15 =>
  if (!q15) = true then
  (none)
  else
  (m_ordered_lanes d2).bind fun q26 =>
  (m_joined_places (d1.length : Int) q26).bind fun q56 =>
  some ((d1.length : Int), d1, q26, d3, (Mi.sortI d4), q56)
def m_Chart_water (d0 : (Int × (List Int) × (List (Int × Int)) × (List Int) × (List Int) × (List (List Int)))) (d1 : Int) (d2 : Int) : Option Int :=
  (at_ d0.2.1 d1).bind fun x8 =>
  (mod d2 (d0.2.2.2.1.length : Int)).bind fun x17 =>
  (at_ d0.2.2.2.1 x17).bind fun x18 =>
  some (x8 + x18)
def m_Chart_neighbours (d0 : (Int × (List Int) × (List (Int × Int)) × (List Int) × (List Int) × (List (List Int)))) (d1 : Int) : Option (List Int) :=
  (at_ d0.2.2.2.2.2 d1).bind fun x7 =>
  some x7
def m_next_ring_b2 (d1 : (List Bool)) (s33 : (List Int)) (x36 : Int) : Option (List Int) :=
  ((at_ d1 x36).bind fun x41 =>
  if x41 = true then ((sadd s33 x36).bind fun x45 =>
  some x45) else (some s33) : Option (List Int)).bind fun s40 =>
  some s40
def m_next_ring_b1 (d0 : (Int × (List Int) × (List (Int × Int)) × (List Int) × (List Int) × (List (List Int)))) (d1 : (List Bool)) (s13 : (List Int)) (x17 : Int) : Option (List Int) :=
  (m_Chart_neighbours d0 x17).bind fun q21 =>
  (forN (m_next_ring_b2 d1) s13 q21).bind fun s33 =>
  some s33
def m_next_ring (d0 : (Int × (List Int) × (List (Int × Int)) × (List Int) × (List Int) × (List (List Int)))) (d1 : (List Bool)) (d2 : (List Int)) : Option (List Int) :=
  (forN (m_next_ring_b1 d0 d1) ([] : List Int) d2).bind fun s13 =>
  (guardO (decide (s13.length < 64) && decide s13.Nodup)).bind fun z48 =>
  some (Mi.sortI s13)
def m_least_lanes_b1 (d0 : (Int × (List Int) × (List (Int × Int)) × (List Int) × (List Int) × (List (List Int)))) (d1 : (Int × Int × Int × Int × Int)) (d2 : Int) (s11 : (List Bool)) (x19 : Int) : Option (List Bool) :=
  (m_Chart_water d0 x19 d2).bind fun q28 =>
  (app s11 (decide (d1.1 ≤ q28))).bind fun x35 =>
  some x35
def m_least_lanes_b3 (d1 : (Int × Int × Int × Int × Int)) (x109 : Int) (s123 : (List (Option Int))) (x126 : Int) : Option (List (Option Int)) :=
  ((if (decide (d1.2.1 ≤ x109)) = true then (at_ s123 x126).bind fun x136 => some x136.isNone else some false).bind fun b140 =>
  if b140 = true then ((setAt s123 x126 (some x109)).bind fun x141 =>
  some x141) else (some s123) : Option (List (Option Int))).bind fun s130 =>
  some s130
def m_least_lanes_b2 (d0 : (Int × (List Int) × (List (Int × Int)) × (List Int) × (List Int) × (List (List Int)))) (d1 : (Int × Int × Int × Int × Int)) (s11 : (List Bool)) (s99 : ((List (Option Int)) × (List Int))) (x109 : Int) : Option ((List (Option Int)) × (List Int)) :=
  (m_next_ring d0 s11 s99.2).bind fun q111 =>
  (forN (m_least_lanes_b3 d1 x109) s99.1 q111).bind fun s123 =>
  some (s123, q111)
def m_least_lanes (d0 : (Int × (List Int) × (List (Int × Int)) × (List Int) × (List Int) × (List (List Int)))) (d1 : (Int × Int × Int × Int × Int)) (d2 : Int) (d3 : Int) : Option (List (Option Int)) :=
  (rngO 0 d0.1).bind fun g9 =>
  (forN (m_least_lanes_b1 d0 d1 d2) ([] : (List Bool)) g9).bind fun s11 =>
  (repL [(none : (Option Int))] d0.1).bind fun x49 =>
  (if (decide (d1.2.1 = (0 : Int))) = true then ((setAt x49 d3 (some (0 : Int))).bind fun x63 =>
  some x63) else (some x49) : Option (List (Option Int))).bind fun s58 =>
  ((at_ s11 d3).bind fun x73 => if x73 = true then some [d3] else some ([] : (List Int)) : Option (List Int)).bind fun x66 =>
  (rngO (1 : Int) (d1.2.2.1 + (1 : Int))).bind fun g97 =>
  (forN (m_least_lanes_b2 d0 d1 s11) (s58, x66) g97).bind fun s99 =>
  some s99.1
def m_step_lanes (d0 : (Int × (List Int) × (List (Int × Int)) × (List Int) × (List Int) × (List (List Int)))) (d1 : (Int × Int × Int × Int × Int)) (d2 : Int) (d3 : Int) (d4 : Int) : Option (Option Int) :=
  (m_least_lanes d0 d1 d2 d3).bind fun q6 =>
  (at_ q6 d4).bind fun x14 =>
  some x14
def m_Chart_is_harbour (d0 : (Int × (List Int) × (List (Int × Int)) × (List Int) × (List Int) × (List (List Int)))) (d1 : Int) : Option Bool :=
  some (d0.2.2.2.2.1.contains d1)
def m_fuel_after (d0 : (Int × (List Int) × (List (Int × Int)) × (List Int) × (List Int) × (List (List Int)))) (d1 : (Int × Int × Int × Int × Int)) (d2 : Int) (d3 : Int) : Option Int :=
  (m_Chart_is_harbour d0 d2).bind fun q5 =>
  if q5 = true then
  (some d1.2.2.2.1)
  else
  some d3
def m_fuel_along_b1 (d0 : (Int × (List Int) × (List (Int × Int)) × (List Int) × (List Int) × (List (List Int)))) (d1 : (Int × Int × Int × Int × Int)) (d2 : (List Int)) (s12 : (List Int)) (x18 : (Int × Int)) : Option ((Option (List Int)) ⊕ (List Int)) :=
  pyLet (d1.2.2.2.2 : Int) fun amount29 =>
  ((if (decide ((0 : Int) < x18.1)) = true then ((at_ d2 (x18.1 - (1 : Int))).bind fun x33 =>
  (m_step_lanes d0 d1 (x18.1 - (1 : Int)) x33 x18.2).bind fun q34 =>
  (if q34.isNone = true then some true else (at_ s12 (-(1 : Int))).bind fun x40 => (q34).bind fun x41 => some (decide (x40 < x41))).bind fun b42 =>
  if b42 = true then
  (some (.inl (none : (Option (List Int)))))
  else
  (at_ s12 (-(1 : Int))).bind fun x43 =>
  (q34).bind fun x44 =>
  pyLet ((x43 - x44) : Int) fun amount45 =>
  some (.inr amount45)) else (some (.inr amount29)) : Option ((Option (List Int)) ⊕ Int))).bind fun s30 => orL s30 fun s31 =>
  (m_fuel_after d0 d1 x18.2 s31).bind fun q46 =>
  (app s12 q46).bind fun x49 =>
  some (.inr x49)
def m_fuel_along (d0 : (Int × (List Int) × (List (Int × Int)) × (List Int) × (List Int) × (List (List Int)))) (d1 : (Int × Int × Int × Int × Int)) (d2 : (List Int)) : Option (Option (List Int)) :=
  (forR (m_fuel_along_b1 d0 d1 d2) ([] : (List Int)) (Mi.enumF 0 d2)).bind fun e11 => orR e11 fun s12 =>
  some (some s12)
def m_l_hand (d0 : (List Int)) (d1 : Int) : Option (List Int) :=
  pyLet ((0 : Int) : Int) fun cell3 =>
  (if (decide (d1 < (d0.length : Int))) = true then ((at_ d0 d1).bind fun x5 =>
  pyLet (x5 : Int) fun cell6 =>
  some cell6) else (some cell3) : Option Int).bind fun s4 =>
  (if (decide (s4 < (0 : Int))) = true then (pyLet (((1 : Int) - ((2 : Int) * s4)) : Int) fun cell8 =>
  some cell8) else (some s4) : Option Int).bind fun s7 =>
  pyLet ((0 : Int) : Int) fun rest9 =>
  (if (decide (((10 : Int) ^ 18) ≤ s7)) = true then (pyLet (s7 : Int) fun rest11 =>
  some rest11) else (some rest9) : Option Int).bind fun s10 =>
  some [s10, (((s7 + ((7919 : Int) * d1)) + (13 : Int)) % (2147483647 : Int)), (0 : Int)]
def m_l_pick (d0 : (List Int)) (d1 : Int) : Option (Int × (List Int)) :=
  if (decide (d1 < (1 : Int))) = true then
  (some ((0 : Int), d0))
  else
  (at_ d0 (0 : Int)).bind fun x3 =>
  if (decide ((0 : Int) < x3)) = true then
  ((at_ d0 (0 : Int)).bind fun x4 =>
  (mod x4 d1).bind fun x5 =>
  pyLet (x5 : Int) fun digit6 =>
  (at_ d0 (0 : Int)).bind fun x7 =>
  (fdiv x7 d1).bind fun x8 =>
  (setAt d0 (0 : Int) x8).bind fun x9 =>
  some (digit6, x9))
  else
  (at_ d0 (2 : Int)).bind fun x12 =>
  (setAt d0 (2 : Int) (x12 + (1 : Int))).bind fun x13 =>
  (at_ x13 (1 : Int)).bind fun x16 =>
  (at_ x13 (2 : Int)).bind fun x17 =>
  pyLet ((((x16 + ((7919 : Int) * x17)) + (13 : Int)) % (2147483647 : Int)) : Int) fun mixed18 =>
  (mul mixed18 (mixed18 + (48271 : Int))).bind fun x19 =>
  pyLet ((x19 % (2147483629 : Int)) : Int) fun mixed20 =>
  (mul mixed20 (mixed20 + (69621 : Int))).bind fun x21 =>
  (at_ x13 (2 : Int)).bind fun x22 =>
  pyLet (((x21 + ((31 : Int) * x22)) % (2147483647 : Int)) : Int) fun mixed23 =>
  (mod (mixed23 / (9 : Int)) d1).bind fun x24 =>
  some (x24, x13)
def m_l_int_0 (d0 : Int) : Option Bool :=
  some (true && (!false))
def m_l_int_1 (d0 : (Option Int)) : Option Bool :=
  some ((d0.isSome && true) && (!(d0.isSome && false)))
def m_l_some_b1 (d2 : Int) (s13 : ((List Int) × (List Int))) (x16 : Int) : Option ((List Int) × (List Int)) :=
  ((m_l_pick s13.1 d2).bind fun q19 =>
  if (decide (q19.1 = (0 : Int))) = true then ((app s13.2 x16).bind fun x22 =>
  some (q19.2, x22)) else (some (q19.2, s13.2)) : Option ((List Int) × (List Int))).bind fun s18 =>
  some (s18.1, s18.2)
def m_l_some (d0 : (List Int)) (d1 : Int) (d2 : Int) : Option ((List Int) × (List Int)) :=
  (rngO 0 d1).bind fun g11 =>
  (forN (m_l_some_b1 d2) (d0, ([] : (List Int))) g11).bind fun s13 =>
  some (s13.2, s13.1)
def m_l_sea_b2 (x54 : Int) (s64 : ((List Int) × (List (Int × Int)))) (x67 : Int) : Option ((List Int) × (List (Int × Int))) :=
  ((m_l_pick s64.1 (4 : Int)).bind fun q70 =>
  if (decide ((0 : Int) < q70.1)) = true then ((app s64.2 (x67, x54)).bind fun x78 =>
  some (q70.2, x78)) else (some (q70.2, s64.2)) : Option ((List Int) × (List (Int × Int)))).bind fun s69 =>
  some (s69.1, s69.2)
def m_l_sea_b1 (x17 : Int) (s50 : ((List Int) × (List Int) × (List (Int × Int)))) (x54 : Int) : Option ((List Int) × (List Int) × (List (Int × Int))) :=
  (m_l_pick s50.1 x17).bind fun q56 =>
  (app s50.2.1 q56.1).bind fun x59 =>
  (rngO 0 x54).bind fun g62 =>
  (forN (m_l_sea_b2 x54) (q56.2, s50.2.2) g62).bind fun s64 =>
  some (s64.1, x59, s64.2)
def m_l_sea_b3 (x30 : Int) (s95 : ((List Int) × (List Int))) (x98 : Int) : Option ((List Int) × (List Int)) :=
  (m_l_pick s95.1 x30).bind fun q100 =>
  (app s95.2 q100.1).bind fun x103 =>
  some (q100.2, x103)
def m_l_sea (d0 : (List Int)) (d1 : Int) : Option (((List Int) × (List (Int × Int)) × (List Int) × (List Int)) × (List Int)) :=
  (m_l_pick d0 d1).bind fun q3 =>
  pyLet (((1 : Int) + q3.1) : Int) fun size6 =>
  (m_l_pick q3.2 (3 : Int)).bind fun q14 =>
  (at_ [(2 : Int), (6 : Int), (100 : Int)] q14.1).bind fun x17 =>
  (m_l_pick q14.2 (3 : Int)).bind fun q27 =>
  (at_ [(1 : Int), (4 : Int), (21 : Int)] q27.1).bind fun x30 =>
  (rngO 0 size6).bind fun g48 =>
  (forN (m_l_sea_b1 x17) (q27.2, ([] : (List Int)), ([] : (List (Int × Int)))) g48).bind fun s50 =>
  (m_l_pick s50.1 (3 : Int)).bind fun q90 =>
  (rngO 0 q90.1).bind fun g93 =>
  (forN (m_l_sea_b3 x30) (q90.2, [(0 : Int)]) g93).bind fun s95 =>
  (m_l_some s95.1 size6 (4 : Int)).bind fun q106 =>
  some ((s50.2.1, s50.2.2, s95.2, q106.1), q106.2)
def m_l_chart (d0 : ((List Int) × (List (Int × Int)) × (List Int) × (List Int))) : Option (Int × (List Int) × (List (Int × Int)) × (List Int) × (List Int) × (List (List Int))) :=
  (m_Chart_init (d0.1, d0.2.1, d0.2.2.1, d0.2.2.2).1 (d0.1, d0.2.1, d0.2.2.1, d0.2.2.2).2.1 (d0.1, d0.2.1, d0.2.2.1, d0.2.2.2).2.2.1 (d0.1, d0.2.1, d0.2.2.1, d0.2.2.2).2.2.2).bind fun q123 =>
  some q123
def m_l_craft (d0 : (List Int)) (d1 : ((List Int) × (List (Int × Int)) × (List Int) × (List Int))) : Option ((Int × Int × Int × Int × Int) × (List Int)) :=
  (m_l_pick d0 (d1.1.length : Int)).bind fun q17 =>
  (at_ d1.1 q17.1).bind fun x20 =>
  (m_l_pick q17.2 (d1.1.length : Int)).bind fun q37 =>
  (at_ d1.1 q37.1).bind fun x40 =>
  (m_l_pick q37.2 (3 : Int)).bind fun q51 =>
  (at_ [(0 : Int), x20, (x40 + (1 : Int))] q51.1).bind fun x54 =>
  (m_l_pick q51.2 (4 : Int)).bind fun q65 =>
  (at_ [(0 : Int), (0 : Int), (0 : Int), (1 : Int)] q65.1).bind fun x68 =>
  (m_l_pick q65.2 (4 : Int)).bind fun q79 =>
  (at_ [(1 : Int), (1 : Int), (2 : Int), (3 : Int)] q79.1).bind fun x82 =>
  pyLet ((max x68 x82) : Int) fun top85 =>
  (m_l_pick q79.2 (4 : Int)).bind fun q94 =>
  (at_ [(8 : Int), (8 : Int), (3 : Int), (1 : Int)] q94.1).bind fun x97 =>
  (m_l_pick q94.2 (x97 + (1 : Int))).bind fun q100 =>
  (m_l_pick q100.2 (2 : Int)).bind fun q111 =>
  (at_ [x97, q100.1] q111.1).bind fun x114 =>
  some (((min x54 (99 : Int)), x68, top85, x97, x114), q111.2)
def m_l_ship (d0 : (Int × Int × Int × Int × Int)) : Option (Int × Int × Int × Int × Int) :=
  (m_Ship_init d0.1 d0.2.1 d0.2.2.1 d0.2.2.2.1 (some d0.2.2.2.2)).bind fun q40 =>
  some q40
def m_l_water (d0 : ((List Int) × (List (Int × Int)) × (List Int) × (List Int))) (d1 : Int) (d2 : Int) : Option Int :=
  (at_ d0.1 d1).bind fun x10 =>
  (mod d2 (d0.2.2.1.length : Int)).bind fun x23 =>
  (at_ d0.2.2.1 x23).bind fun x24 =>
  some (x10 + x24)
def m_l_touches_b1 (d1 : (List Int)) (d2 : Int) (s11 : Unit) (x14 : (Int × Int)) : Option (Bool ⊕ Unit) :=
  if ((decide (x14.1 = d2)) && (d1.contains x14.2)) = true then
  (some (.inl true))
  else
  if ((decide (x14.2 = d2)) && (d1.contains x14.1)) = true then
  (some (.inl true))
  else
  some (.inr ())
def m_l_touches (d0 : ((List Int) × (List (Int × Int)) × (List Int) × (List Int))) (d1 : (List Int)) (d2 : Int) : Option Bool :=
  (forR (m_l_touches_b1 d1 d2) () d0.2.1).bind fun e10 => orR e10 fun s11 =>
  some false
def m_l_lanes_b1 (d0 : ((List Int) × (List (Int × Int)) × (List Int) × (List Int))) (d1 : (Int × Int × Int × Int × Int)) (d2 : Int) (s14 : (List Bool)) (x23 : Int) : Option (List Bool) :=
  (m_l_water d0 x23 d2).bind fun q32 =>
  (app s14 (decide (d1.1 ≤ q32))).bind fun x41 =>
  some x41
def m_l_lanes_b2  (s46 : (List (Option Int))) (x56 : Int) : Option (List (Option Int)) :=
  (app s46 (none : (Option Int))).bind fun x65 =>
  some x65
def m_l_lanes_b4 (d0 : ((List Int) × (List (Int × Int)) × (List Int) × (List Int))) (s14 : (List Bool)) (s117 : ((List (Option Int)) × (List Int))) (s132 : (List Int)) (x144 : Int) : Option (List Int) :=
  ((at_ s14 x144).bind fun x154 => if x154 = true then (m_l_touches d0 s117.2 x144).bind fun q158 => some q158 else some false : Option Bool).bind fun b153 =>
  if b153 = true then ((app s132 x144).bind fun x161 =>
  some x161) else (some s132)
def m_l_lanes_b5 (d1 : (Int × Int × Int × Int × Int)) (x128 : Int) (s165 : (List (Option Int))) (x168 : Int) : Option (List (Option Int)) :=
  ((if (decide (d1.2.1 ≤ x128)) = true then (at_ s165 x168).bind fun x180 => some x180.isNone else some false).bind fun b184 =>
  if b184 = true then ((setAt s165 x168 (some x128)).bind fun x185 =>
  some x185) else (some s165) : Option (List (Option Int))).bind fun s172 =>
  some s172
def m_l_lanes_b3 (d0 : ((List Int) × (List (Int × Int)) × (List Int) × (List Int))) (d1 : (Int × Int × Int × Int × Int)) (size11 : Int) (s14 : (List Bool)) (s117 : ((List (Option Int)) × (List Int))) (x128 : Int) : Option ((List (Option Int)) × (List Int)) :=
  (rngO 0 size11).bind fun g130 =>
  (forN (m_l_lanes_b4 d0 s14 s117) ([] : (List Int)) g130).bind fun s132 =>
  (forN (m_l_lanes_b5 d1 x128) s117.1 s132).bind fun s165 =>
  some (s165, s132)
def m_l_lanes (d0 : ((List Int) × (List (Int × Int)) × (List Int) × (List Int))) (d1 : (Int × Int × Int × Int × Int)) (d2 : Int) (d3 : Int) : Option (List (Option Int)) :=
  pyLet ((d0.1.length : Int) : Int) fun size11 =>
  (rngO 0 size11).bind fun g12 =>
  (forN (m_l_lanes_b1 d0 d1 d2) ([] : (List Bool)) g12).bind fun s14 =>
  (rngO 0 size11).bind fun g44 =>
  (forN (m_l_lanes_b2) ([] : (List (Option Int))) g44).bind fun s46 =>
  (if (decide (d1.2.1 = (0 : Int))) = true then ((setAt s46 d3 (some (0 : Int))).bind fun x75 =>
  some x75) else (some s46) : Option (List (Option Int))).bind fun s68 =>
  ((at_ s14 d3).bind fun x95 =>
  if x95 = true then (some [d3]) else (some ([] : (List Int))) : Option (List Int)).bind fun s87 =>
  (rngO (1 : Int) (d1.2.2.1 + (1 : Int))).bind fun g115 =>
  (forN (m_l_lanes_b3 d0 d1 size11 s14) (s68, s87) g115).bind fun s117 =>
  some s117.1
def m_l_filled (d0 : ((List Int) × (List (Int × Int)) × (List Int) × (List Int))) (d1 : (Int × Int × Int × Int × Int)) (d2 : Int) (d3 : Int) : Option Int :=
  if (d0.2.2.2.contains d2) = true then
  (some d1.2.2.2.1)
  else
  some d3
def m_l_fuels_b1 (d0 : ((List Int) × (List (Int × Int)) × (List Int) × (List Int))) (d1 : (Int × Int × Int × Int × Int)) (d2 : (List Int)) (s24 : (List Int)) (x28 : Int) : Option ((Option (List Int)) ⊕ (List Int)) :=
  (at_ d2 x28).bind fun x31 =>
  (m_l_lanes d0 d1 x28 x31).bind fun q32 =>
  (at_ d2 (x28 + (1 : Int))).bind fun x43 =>
  (at_ q32 x43).bind fun x44 =>
  (if x44.isNone = true then some true else (at_ s24 (-(1 : Int))).bind fun x48 => (x44).bind fun x49 => some (decide (x48 < x49))).bind fun b50 =>
  if b50 = true then
  (some (.inl (none : (Option (List Int)))))
  else
  (at_ d2 (x28 + (1 : Int))).bind fun x51 =>
  (at_ s24 (-(1 : Int))).bind fun x52 =>
  (x44).bind fun x53 =>
  (m_l_filled d0 d1 x51 (x52 - x53)).bind fun q54 =>
  (app s24 q54).bind fun x57 =>
  some (.inr x57)
def m_l_fuels (d0 : ((List Int) × (List (Int × Int)) × (List Int) × (List Int))) (d1 : (Int × Int × Int × Int × Int)) (d2 : (List Int)) : Option (Option (List Int)) :=
  (at_ d2 (0 : Int)).bind fun x4 =>
  (m_l_filled d0 d1 x4 d1.2.2.2.2).bind fun q11 =>
  (rngO 0 ((d2.length : Int) - (1 : Int))).bind fun g22 =>
  (forR (m_l_fuels_b1 d0 d1 d2) [q11] g22).bind fun e23 => orR e23 fun s24 =>
  some (some s24)
def m_l_sail_b2 (s68 : ((List Int) × (List Int) × Int)) (q78 : (List (Option Int))) (s102 : (List Int)) (x116 : Int) : Option (List Int) :=
  (at_ q78 x116).bind fun x125 =>
  (if x125.isSome = true then (at_ q78 x116).bind fun x130 => (x130).bind fun x134 => some (decide (x134 ≤ s68.2.2)) else some false).bind fun b135 =>
  if b135 = true then ((app s102 x116).bind fun x136 =>
  some x136) else (some s102)
def m_l_sail_b1 (d1 : ((List Int) × (List (Int × Int)) × (List Int) × (List Int))) (d2 : (Int × Int × Int × Int × Int)) (d3 : (List (List Int))) (s68 : ((List Int) × (List Int) × Int)) (x74 : Int) : Option (((List Int) × (List Int)) ⊕ ((List Int) × (List Int) × Int)) :=
  (at_ s68.2.1 (-(1 : Int))).bind fun x77 =>
  (m_l_lanes d1 d2 x74 x77).bind fun q78 =>
  (at_ d3 (x74 + (1 : Int))).bind fun x90 =>
  (forN (m_l_sail_b2 s68 q78) ([] : (List Int)) x90).bind fun s102 =>
  if (decide ((s102.length : Int) = (0 : Int))) = true then
  (some (.inl (s68.2.1, s68.1)))
  else
  (m_l_pick s68.1 (s102.length : Int)).bind fun q139 =>
  (at_ s102 q139.1).bind fun x142 =>
  (at_ q78 x142).bind fun x145 =>
  (x145).bind fun x149 =>
  (m_l_filled d1 d2 x142 (s68.2.2 - x149)).bind fun q150 =>
  (app s68.2.1 x142).bind fun x153 =>
  some (.inr (q139.2, x153, q150))
def m_l_sail (d0 : (List Int)) (d1 : ((List Int) × (List (Int × Int)) × (List Int) × (List Int))) (d2 : (Int × Int × Int × Int × Int)) (d3 : (List (List Int))) : Option ((List Int) × (List Int)) :=
  (at_ d3 (0 : Int)).bind fun x5 =>
  if (decide ((x5.length : Int) = (0 : Int))) = true then
  (some (([] : (List Int)), d0))
  else
  (at_ d3 (0 : Int)).bind fun x23 =>
  (at_ d3 (0 : Int)).bind fun x32 =>
  (m_l_pick d0 (x32.length : Int)).bind fun q41 =>
  (at_ x23 q41.1).bind fun x44 =>
  (at_ [x44] (0 : Int)).bind fun x56 =>
  (m_l_filled d1 d2 x56 d2.2.2.2.2).bind fun q63 =>
  (rngO 0 ((d3.length : Int) - (1 : Int))).bind fun g66 =>
  (forR (m_l_sail_b1 d1 d2 d3) (q41.2, [x44], q63) g66).bind fun e67 => orR e67 fun s68 =>
  some (s68.2.1, s68.1)
def m_l_open_b1 (d0 : ((List Int) × (List (Int × Int)) × (List Int) × (List Int))) (s5 : (List (List Int))) (x15 : Int) : Option (List (List Int)) :=
  (rngL 0 (d0.1.length : Int)).bind fun g31 =>
  (app s5 g31).bind fun x40 =>
  some x40
def m_l_open (d0 : ((List Int) × (List (Int × Int)) × (List Int) × (List Int))) (d1 : Int) : Option (List (List Int)) :=
  (rngO 0 d1).bind fun g3 =>
  (forN (m_l_open_b1 d0) ([] : (List (List Int))) g3).bind fun s5 =>
  some s5
def m_l_flows_b1 (q70 : (Int × (List Int))) (s74 : (List Int)) (x85 : Int) : Option (List Int) :=
  (app s74 (x85 + q70.1)).bind fun x94 =>
  some x94
def m_l_flows_b2  (s109 : ((List Int) × (List Int))) (x120 : Int) : Option ((List Int) × (List Int)) :=
  (m_l_pick s109.2 (21 : Int)).bind fun q129 =>
  (app s109.1 q129.1).bind fun x132 =>
  some (x132, q129.2)
def m_l_flows (d0 : (List Int)) (d1 : ((List Int) × (List (Int × Int)) × (List Int) × (List Int))) : Option (((List Int) × (List (Int × Int)) × (List Int) × (List Int)) × (List Int)) :=
  (m_l_pick d0 (d1.2.2.1.length : Int)).bind fun q10 =>
  (cat (Mi.cut d1.2.2.1 (some q10.1) none) (Mi.cut d1.2.2.1 none (some q10.1))).bind fun x47 =>
  (m_l_pick q10.2 (4 : Int)).bind fun q58 =>
  (if (decide (q58.1 = (2 : Int))) = true then ((lMax x47).bind fun x69 =>
  (m_l_pick q58.2 ((21 : Int) - x69)).bind fun q70 =>
  (forN (m_l_flows_b1 q70) ([] : (List Int)) x47).bind fun s74 =>
  some (q70.2, s74)) else (some (q58.2, x47)) : Option ((List Int) × (List Int))).bind fun s61 =>
  (if (decide (q58.1 = (3 : Int))) = true then ((m_l_pick s61.1 (12 : Int)).bind fun q104 =>
  (rngO 0 ((1 : Int) + q104.1)).bind fun g107 =>
  (forN (m_l_flows_b2) (([] : (List Int)), q104.2) g107).bind fun s109 =>
  some (s109.2, s109.1)) else (some (s61.1, s61.2)) : Option ((List Int) × (List Int))).bind fun s97 =>
  some ((d1.1, d1.2.1, s97.2, d1.2.2.2), s97.1)
def m_l_ports (d0 : (List Int)) (d1 : ((List Int) × (List (Int × Int)) × (List Int) × (List Int))) : Option (((List Int) × (List (Int × Int)) × (List Int) × (List Int)) × (List Int)) :=
  (m_l_pick d0 (2 : Int)).bind fun q3 =>
  if (decide (q3.1 = (0 : Int))) = true then
  (some (d1, q3.2))
  else
  (m_l_some q3.2 (d1.1.length : Int) (2 : Int)).bind fun q34 =>
  some ((d1.1, d1.2.1, d1.2.2.1, q34.1), q34.2)
def m_l_boat (d0 : (List Int)) (d1 : ((List Int) × (List (Int × Int)) × (List Int) × (List Int))) : Option ((Int × Int × Int × Int × Int) × (List Int)) :=
  (m_l_craft d0 d1).bind fun q3 =>
  (m_l_pick q3.2 (2 : Int)).bind fun q8 =>
  if (decide (q8.1 = (0 : Int))) = true then
  (some (q3.1, q8.2))
  else
  (m_l_pick q8.2 (100 : Int)).bind fun q23 =>
  (m_l_pick q23.2 (3 : Int)).bind fun q34 =>
  (at_ [q3.1.1, q3.1.1, q23.1] q34.1).bind fun x37 =>
  (m_l_pick q34.2 (4 : Int)).bind fun q40 =>
  (m_l_pick q40.2 ((4 : Int) - q40.1)).bind fun q43 =>
  pyLet ((q40.1 + q43.1) : Int) fun top46 =>
  (m_l_pick q43.2 (9 : Int)).bind fun q47 =>
  (m_l_pick q47.2 (q47.1 + (1 : Int))).bind fun q50 =>
  some ((x37, q40.1, top46, q47.1, q50.1), q50.2)
def m_l_amounts_b1 (d0 : (Option (List Int))) (x9 : (List Int)) (s13 : Unit) (x16 : Int) : Option (Bool ⊕ Unit) :=
  ((d0).bind fun x20 => (at_ x20 x16).bind fun x22 => (m_l_int_0 x22).bind fun q23 => if (!q23) = true then some true else (at_ x20 x16).bind fun x26 => (at_ x9 x16).bind fun x27 => some (!(decide (x26 = x27))) : Option Bool).bind fun b19 =>
  if b19 = true then
  (some (.inl false))
  else
  some (.inr ())
def m_l_amounts (d0 : (Option (List Int))) (d1 : (Option (List Int))) : Option Bool :=
  if d1.isNone = true then
  (some d0.isNone)
  else
  (if (!(d0.isSome && true)) = true then some true else (d0).bind fun x4 => (d1).bind fun x6 => some (!(decide ((x4.length : Int) = (x6.length : Int))))).bind fun b8 =>
  if b8 = true then
  (some false)
  else
  (d1).bind fun x9 =>
  (rngO 0 (x9.length : Int)).bind fun g11 =>
  (forR (m_l_amounts_b1 d0 x9) () g11).bind fun e12 => orR e12 fun s13 =>
  some true
def m_l_other_sea (d0 : ((List Int) × (List (Int × Int)) × (List Int) × (List Int))) : Option ((List Int) × (List (Int × Int)) × (List Int) × (List Int)) :=
  (cat (Mi.cut d0.2.2.1 (some (1 : Int)) none) (Mi.cut d0.2.2.1 none (some (1 : Int)))).bind fun x70 =>
  some (d0.1.reverse, (Mi.evens d0.2.1), x70, d0.2.2.2)
def m_law_b1 (d0 : (List Int)) (q41 : (((List Int) × (List (Int × Int)) × (List Int) × (List Int)) × (List Int))) (s52 : (List (Int × Int × Int × Int × Int))) (x62 : Int) : Option (List (Int × Int × Int × Int × Int)) :=
  (at_ [(1 : Int), (6 : Int)] x62).bind fun x80 =>
  (m_l_hand d0 x80).bind fun q83 =>
  (m_l_boat q83 q41.1).bind fun q94 =>
  (app s52 q94.1).bind fun x99 =>
  some x99
def m_law_b2 (q41 : (((List Int) × (List (Int × Int)) × (List Int) × (List Int)) × (List Int))) (s175 : ((List Int) × (List Int))) (x179 : Int) : Option ((List Int) × (List Int)) :=
  (m_l_pick s175.1 (s175.2.length : Int)).bind fun q181 =>
  (m_l_pick q181.2 (q41.1.1.length : Int)).bind fun q195 =>
  (setAt s175.2 q181.1 q195.1).bind fun x198 =>
  some (q195.2, x198)
def m_law_b3  (s225 : (List (Int × (List Int) × (List (Int × Int)) × (List Int) × (List Int) × (List (List Int))))) (x239 : ((List Int) × (List (Int × Int)) × (List Int) × (List Int))) : Option (List (Int × (List Int) × (List (Int × Int)) × (List Int) × (List Int) × (List (List Int)))) :=
  (m_l_chart x239).bind fun q254 =>
  (app s225 q254).bind fun x259 =>
  some x259
def m_law_b4  (s263 : (List (Int × Int × Int × Int × Int))) (x278 : (Int × Int × Int × Int × Int)) : Option (List (Int × Int × Int × Int × Int)) :=
  (m_l_ship x278).bind fun q287 =>
  (app s263 q287).bind fun x292 =>
  some x292
def m_law_b7 (q41 : (((List Int) × (List (Int × Int)) × (List Int) × (List Int)) × (List Int))) (s52 : (List (Int × Int × Int × Int × Int))) (q201 : ((List Int) × (List (Int × Int)) × (List Int) × (List Int))) (s225 : (List (Int × (List Int) × (List (Int × Int)) × (List Int) × (List Int) × (List (List Int))))) (s263 : (List (Int × Int × Int × Int × Int))) (x329 : (List Int)) (x346 : (List Int)) (x356 : Int) (s361 : Unit) (x365 : Int) : Option (Bool ⊕ Unit) :=
  (at_ s225 x356).bind fun x368 =>
  (at_ s263 x365).bind fun x372 =>
  (m_fuel_along x368 x372 x346).bind fun q376 =>
  ((at_ [q41.1, q201] x356).bind fun x396 => (at_ s52 x365).bind fun x415 => (m_l_fuels x396 x415 x329).bind fun q419 => (m_l_amounts q376 q419).bind fun q439 => if (!q439) = true then some true else some (!(decide (x346 = x329))) : Option Bool).bind fun b395 =>
  if b395 = true then
  (some (.inl false))
  else
  (if q376.isSome = true then ((q376).bind fun x443 =>
  (app x443 (99 : Int)).bind fun x445 =>
  some ()) else (some ()) : Option Unit).bind fun s442 =>
  some (.inr ())
def m_law_b6 (q41 : (((List Int) × (List (Int × Int)) × (List Int) × (List Int)) × (List Int))) (s52 : (List (Int × Int × Int × Int × Int))) (q201 : ((List Int) × (List (Int × Int)) × (List Int) × (List Int))) (s225 : (List (Int × (List Int) × (List (Int × Int)) × (List Int) × (List Int) × (List (List Int))))) (s263 : (List (Int × Int × Int × Int × Int))) (x329 : (List Int)) (x346 : (List Int)) (s351 : Unit) (x356 : Int) : Option (Bool ⊕ Unit) :=
  (rngO 0 (2 : Int)).bind fun g359 =>
  (forR (m_law_b7 q41 s52 q201 s225 s263 x329 x346 x356) () g359).bind fun e360 => orL e360 fun s361 =>
  some (.inr ())
def m_law_b5 (q41 : (((List Int) × (List (Int × Int)) × (List Int) × (List Int)) × (List Int))) (s52 : (List (Int × Int × Int × Int × Int))) (q201 : ((List Int) × (List (Int × Int)) × (List Int) × (List Int))) (s225 : (List (Int × (List Int) × (List (Int × Int)) × (List Int) × (List Int) × (List (List Int))))) (s263 : (List (Int × Int × Int × Int × Int))) (s323 : (List Int)) (x329 : (List Int)) : Option (Bool ⊕ (List Int)) :=
  (ext ([] : (List Int)) x329).bind fun x346 =>
  (rngO 0 (2 : Int)).bind fun g349 =>
  (forR (m_law_b6 q41 s52 q201 s225 s263 x329 x346) () g349).bind fun e350 => orL e350 fun s351 =>
  some (.inr x346)
def m_law (d0 : (List Int)) : Option Bool :=
  (m_l_hand d0 (0 : Int)).bind fun q2 =>
  (m_l_pick q2 (8 : Int)).bind fun q17 =>
  (at_ [(6 : Int), (6 : Int), (6 : Int), (6 : Int), (6 : Int), (6 : Int), (6 : Int), (12 : Int)] q17.1).bind fun x20 =>
  (m_l_sea q17.2 x20).bind fun q23 =>
  (m_l_flows q23.2 q23.1).bind fun q32 =>
  (m_l_ports q32.2 q32.1).bind fun q41 =>
  (rngO 0 (2 : Int)).bind fun g50 =>
  (forN (m_law_b1 d0 q41) ([] : (List (Int × Int × Int × Int × Int))) g50).bind fun s52 =>
  (m_l_hand d0 (2 : Int)).bind fun q102 =>
  (m_l_pick q102 (9 : Int)).bind fun q113 =>
  pyLet (((1 : Int) + q113.1) : Int) fun count116 =>
  ((m_l_pick q113.2 (8 : Int)).bind fun q118 =>
  if (decide (q118.1 = (0 : Int))) = true then (pyLet ((25 : Int) : Int) fun count121 =>
  some (q118.2, count121)) else (some (q118.2, count116)) : Option ((List Int) × Int)).bind fun s117 =>
  (at_ s52 (0 : Int)).bind fun x122 =>
  (m_l_open q41.1 s117.2).bind fun q126 =>
  (m_l_sail s117.1 q41.1 x122 q126).bind fun q137 =>
  (m_l_hand d0 (7 : Int)).bind fun q148 =>
  (m_l_pick q148 (4 : Int)).bind fun q170 =>
  (rngO 0 (max (0 : Int) (q170.1 - (1 : Int)))).bind fun g173 =>
  (forN (m_law_b2 q41) (q170.2, q137.1) g173).bind fun s175 =>
  (m_l_other_sea q41.1).bind fun q201 =>
  (forN (m_law_b3) ([] : (List (Int × (List Int) × (List (Int × Int)) × (List Int) × (List Int) × (List (List Int))))) [q41.1, q201]).bind fun s225 =>
  (forN (m_law_b4) ([] : (List (Int × Int × Int × Int × Int))) s52).bind fun s263 =>
  (forR (m_law_b5 q41 s52 q201 s225 s263) ([] : (List Int)) [q137.1, s175.2, q137.1]).bind fun e322 => orR e322 fun s323 =>
  some true
end Mi

namespace Mi
/-! ### draws -/
def Hd (h : List Int) : Prop := ∃ a b c : Int, h = [a, b, c] ∧ 0 ≤ a
theorem mod_ok {i j : Int} (h : 0 < j) : mod i j = some (i % j) := if_pos h
theorem fdiv_ok {i j : Int} (h : 0 < j) (h2 : j < 2 ^ 200) : fdiv i j = some (i / j) := if_pos ⟨h, h2⟩
theorem mul_okL {i j : Int} (h : -(2 ^ 64) < i) (h2 : i < 2 ^ 64) : mul i j = some (i * j) := if_pos (.inl ⟨h, h2⟩)
theorem mul_okR {i j : Int} (h : -(2 ^ 64) < j) (h2 : j < 2 ^ 64) : mul i j = some (i * j) := if_pos (.inr ⟨h, h2⟩)
theorem app_ok {α : Type} {xs : List α} {x : α} (h : xs.length < big) : app xs x = some (xs ++ [x]) := if_pos h
theorem cat_ok {α : Type} {xs ys : List α} (h : xs.length + ys.length ≤ big) : cat xs ys = some (xs ++ ys) := if_pos h
theorem rngO_ok {lo hi : Int} (h1 : -(2 ^ 60) ≤ lo) (h2 : lo < 2 ^ 60) (h3 : -(2 ^ 60) ≤ hi) (h4 : hi < 2 ^ 60) : rngO lo hi = some (rng lo hi) := if_pos ⟨⟨h1, h2⟩, h3, h4⟩
theorem rngDownO_ok {lo hi : Int} (h1 : -(2 ^ 60) ≤ lo) (h2 : lo < 2 ^ 60) (h3 : -(2 ^ 60) ≤ hi) (h4 : hi < 2 ^ 60) : rngDownO lo hi = some (rngDown lo hi) := if_pos ⟨⟨h1, h2⟩, h3, h4⟩
theorem at0 {α : Type} (a : α) (l : List α) : at_ (a :: l) 0 = some a := by
  unfold at_ ixN
  rw [if_pos (by decide), if_pos (by rw [List.length_cons]; omega)]
  rfl
theorem at_nat {α : Type} {xs : List α} {j : Nat} {x : α} (h : xs[j]? = some x) : at_ xs (j : Int) = some x := by
  have hj : j < xs.length := (List.getElem?_eq_some_iff.mp h).1
  unfold at_ ixN
  rw [if_pos (by omega), if_pos (by omega), Int.toNat_natCast]
  exact h
theorem at_int {α : Type} {xs : List α} {i : Int} {x : α} (h0 : 0 ≤ i) (h : xs[i.toNat]? = some x) : at_ xs i = some x := by
  have e : i = (i.toNat : Int) := by omega
  rw [e]; exact at_nat h
theorem at_some {α : Type} {xs : List α} {i : Int} (h0 : 0 ≤ i) (h1 : i < xs.length) : ∃ x, at_ xs i = some x ∧ xs[i.toNat]? = some x := by
  have hj : i.toNat < xs.length := by omega
  exact ⟨xs[i.toNat], at_int h0 (List.getElem?_eq_getElem hj), List.getElem?_eq_getElem hj⟩
theorem hand_ok (s : List Int) (k : Int) (hk : 0 ≤ k) : ∃ h, m_l_hand s k = some h ∧ Hd h := by
  simp only [m_l_hand, pyLet]
  have hc : ∃ c, (if decide (k < (s.length : Int)) = true then (at_ s k).bind fun x3 => some x3 else some 0 : Option Int) = some c := by
    by_cases h : k < (s.length : Int)
    · rw [if_pos (decide_eq_true h)]
      obtain ⟨x, hx, _⟩ := at_some hk h
      rw [hx]
      exact ⟨x, rfl⟩
    · rw [if_neg (by simpa using h)]
      exact ⟨0, rfl⟩
  obtain ⟨c, hc⟩ := hc
  rw [hc]
  show ∃ h, (Option.bind (if decide (c < 0) = true then some (1 - 2 * c) else some c) _) = some h ∧ Hd h
  have hd : ∃ d, (if decide (c < 0) = true then some (1 - 2 * c) else some c) = some d ∧ 0 ≤ d := by
    by_cases h : c < 0
    · rw [if_pos (decide_eq_true h)]
      exact ⟨_, rfl, by omega⟩
    · rw [if_neg (by simpa using h)]
      exact ⟨c, rfl, by omega⟩
  obtain ⟨d, hd, h0⟩ := hd
  rw [hd]
  show ∃ h, (Option.bind (if decide (((10 : Int) ^ 18) ≤ d) = true then some d else some 0) _) = some h ∧ Hd h
  by_cases h : ((10 : Int) ^ 18) ≤ d
  · rw [if_pos (decide_eq_true h)]
    exact ⟨_, rfl, _, _, _, rfl, h0⟩
  · rw [if_neg (by simpa using h)]
    exact ⟨_, rfl, _, _, _, rfl, by omega⟩
theorem pick_ok {h : List Int} (hh : Hd h) {n : Int} (hn : 1 ≤ n) (hN : n < 2 ^ 200) : ∃ r h', m_l_pick h n = some (r, h') ∧ 0 ≤ r ∧ r < n ∧ Hd h' := by
  obtain ⟨a, b, c, rfl, ha⟩ := hh
  have i0 : ∀ x y z : Int, at_ [x, y, z] 0 = some x := fun _ _ _ => rfl
  have i1 : ∀ x y z : Int, at_ [x, y, z] 1 = some y := fun _ _ _ => rfl
  have i2 : ∀ x y z : Int, at_ [x, y, z] 2 = some z := fun _ _ _ => rfl
  have s0 : ∀ x y z u : Int, setAt [x, y, z] 0 u = some [u, y, z] := fun _ _ _ _ => rfl
  have s2 : ∀ x y z u : Int, setAt [x, y, z] 2 u = some [x, y, u] := fun _ _ _ _ => rfl
  unfold m_l_pick pyLet
  rw [if_neg (by simp; omega)]
  simp only [i0, i1, i2, s0, s2, Option.bind_some]
  by_cases h : 0 < a
  · rw [if_pos (decide_eq_true h), mod_ok (by omega)]
    simp only [Option.bind_some]
    rw [fdiv_ok (by omega) hN]
    simp only [Option.bind_some, s0]
    exact ⟨_, _, rfl, Int.emod_nonneg _ (by omega), Int.emod_lt_of_pos _ (by omega), _, _, _, rfl, Int.ediv_nonneg ha (by omega)⟩
  · rw [if_neg (by simpa using h)]
    have m1 := Int.emod_nonneg (b + 7919 * (c + 1) + 13) (show (2147483647 : Int) ≠ 0 by decide)
    have m2 := Int.emod_lt_of_pos (b + 7919 * (c + 1) + 13) (show (0 : Int) < 2147483647 by decide)
    rw [mul_okL (by omega) (by omega)]
    simp only [Option.bind_some]
    have m3 := Int.emod_nonneg ((b + 7919 * (c + 1) + 13) % 2147483647 * ((b + 7919 * (c + 1) + 13) % 2147483647 + 48271)) (show (2147483629 : Int) ≠ 0 by decide)
    have m4 := Int.emod_lt_of_pos ((b + 7919 * (c + 1) + 13) % 2147483647 * ((b + 7919 * (c + 1) + 13) % 2147483647 + 48271)) (show (0 : Int) < 2147483629 by decide)
    rw [mul_okL (by omega) (by omega)]
    simp only [Option.bind_some]
    rw [mod_ok (by omega)]
    exact ⟨_, _, rfl, Int.emod_nonneg _ (by omega), Int.emod_lt_of_pos _ (by omega), _, _, _, rfl, ha⟩

/-! ### ranges and loops -/
theorem rng_nil {lo hi : Int} (h : hi ≤ lo) : rng lo hi = [] := by
  unfold rng
  have e : (hi - lo).toNat = 0 := by omega
  rw [e]; rfl
theorem rng_cons {lo hi : Int} (h : lo < hi) : rng lo hi = lo :: rng (lo + 1) hi := by
  unfold rng
  have e : (hi - lo).toNat = (hi - (lo + 1)).toNat + 1 := by omega
  rw [e, List.range_succ_eq_map, List.map_cons, List.map_map]
  congr 1
  · omega
  · apply List.map_congr_left
    intro k _
    show lo + ((k + 1 : Nat) : Int) = lo + 1 + (k : Int)
    omega
theorem rngDown_nil {lo hi : Int} (h : lo ≤ hi) : rngDown lo hi = [] := by
  unfold rngDown
  have e : (lo - hi).toNat = 0 := by omega
  rw [e]; rfl
theorem rngDown_cons {lo hi : Int} (h : hi < lo) : rngDown lo hi = lo :: rngDown (lo - 1) hi := by
  unfold rngDown
  have e : (lo - hi).toNat = (lo - 1 - hi).toNat + 1 := by omega
  rw [e, List.range_succ_eq_map, List.map_cons, List.map_map]
  congr 1
  · omega
  · apply List.map_congr_left
    intro k _
    show lo - ((k + 1 : Nat) : Int) = lo - 1 - (k : Int)
    omega
theorem rng_length (lo hi : Int) : (rng lo hi).length = (hi - lo).toNat := by unfold rng; rw [List.length_map, List.length_range]
theorem mem_rng {lo hi x : Int} : x ∈ rng lo hi ↔ lo ≤ x ∧ x < hi := by
  unfold rng
  rw [List.mem_map]
  constructor
  · rintro ⟨k, hk, rfl⟩
    rw [List.mem_range] at hk
    omega
  · intro h
    exact ⟨(x - lo).toNat, List.mem_range.mpr (by omega), by omega⟩
theorem at_app {α : Type} (pre : List α) (x : α) (post : List α) : at_ (pre ++ x :: post) (pre.length : Int) = some x := at_nat (by
  rw [List.getElem?_append_right (Nat.le_refl _), Nat.sub_self]; rfl)
/-- a loop that keeps P runs through -/
theorem forN_inv {α σ : Type} {f : σ → α → Option σ} (P : σ → Prop) : ∀ {xs : List α} {s : σ}, P s → (∀ s x, x ∈ xs → P s → ∃ s', f s x = some s' ∧ P s') → ∃ e, forN f s xs = some e ∧ P e
  | [], s, h0, _ => ⟨s, rfl, h0⟩
  | x :: xs, s, h0, h => by
    obtain ⟨s', e, h1⟩ := h s x (List.mem_cons_self ..) h0
    obtain ⟨e2, h2, h3⟩ := forN_inv P (xs := xs) h1 fun s y hy => h s y (List.mem_cons_of_mem _ hy)
    exact ⟨e2, by show (f s x).bind _ = _; rw [e]; exact h2, h3⟩
theorem forN_nil {α σ : Type} (f : σ → α → Option σ) (s : σ) : forN f s [] = some s := rfl
theorem forN_cons {α σ : Type} (f : σ → α → Option σ) (s : σ) (x : α) (xs : List α) : forN f s (x :: xs) = (f s x).bind fun s' => forN f s' xs := rfl
theorem forR_nil {α σ ρ : Type} (f : σ → α → Option (ρ ⊕ σ)) (s : σ) : forR f s [] = some (.inr s) := rfl
theorem forR_step {α σ ρ : Type} {f : σ → α → Option (ρ ⊕ σ)} {s s' : σ} {x : α} {xs : List α} (h : f s x = some (.inr s')) : forR f s (x :: xs) = forR f s' xs := by
  show (f s x).bind _ = _
  rw [h]; rfl
/-- a search that finds nothing to return -/
theorem forR_all {α ρ : Type} {f : Unit → α → Option (ρ ⊕ Unit)} : ∀ {xs : List α}, (∀ x ∈ xs, f () x = some (.inr ())) → forR f () xs = some (.inr ())
  | [], _ => rfl
  | x :: xs, h => by
    rw [forR_step (h x (List.mem_cons_self ..))]
    exact forR_all fun y hy => h y (List.mem_cons_of_mem _ hy)
/-- a loop that appends what h gives -/
theorem forN_flat {α β : Type} {f : List β → α → Option (List β)} (h : α → List β) (h1 : ∀ x, (h x).length ≤ 1) : ∀ {xs : List α} {acc : List β}, acc.length + xs.length ≤ big → (∀ acc x, x ∈ xs → acc.length < big → f acc x = some (acc ++ h x)) → forN f acc xs = some (acc ++ xs.flatMap h)
  | [], acc, _, _ => by rw [List.flatMap_nil, List.append_nil]; rfl
  | x :: xs, acc, hb, hf => by
    rw [List.length_cons] at hb
    rw [forN_cons, hf acc x (List.mem_cons_self ..) (by omega), Option.bind_some, forN_flat h h1 (by rw [List.length_append]; have := h1 x; omega) fun a y hy => hf a y (List.mem_cons_of_mem _ hy), List.flatMap_cons, List.append_assoc]
/-- a walk by index is a walk over the pairs -/
theorem forN_index {α σ : Type} {f : σ → Int → Option σ} {g : σ → Int × α → Option σ} : ∀ (suf pre : List α) (s : σ), (∀ s (k : Nat) x, (pre ++ suf)[k]? = some x → f s (k : Int) = g s ((k : Int), x)) → forN f s (rng (pre.length : Int) ((pre ++ suf).length : Int)) = forN g s (enumF (pre.length : Int) suf)
  | [], pre, s, _ => by rw [rng_nil (by rw [List.append_nil]; omega)]; rfl
  | x :: suf, pre, s, h => by
    rw [rng_cons (by rw [List.length_append, List.length_cons]; omega)]
    show (f s (pre.length : Int)).bind _ = (g s ((pre.length : Int), x)).bind _
    rw [h s pre.length x (by rw [List.getElem?_append_right (Nat.le_refl _), Nat.sub_self]; rfl)]
    congr 1
    funext s'
    have e : pre ++ x :: suf = (pre ++ [x]) ++ suf := by rw [List.append_assoc]; rfl
    have e2 : ((pre ++ [x]).length : Int) = (pre.length : Int) + 1 := by rw [List.length_append]; rfl
    have z := forN_index suf (pre ++ [x]) s' (f := f) (g := g) (fun s k y hy => h s k y (by rw [e]; exact hy))
    rw [e2] at z
    rw [e]; exact z
theorem forN_index0 {α σ : Type} {f : σ → Int → Option σ} {g : σ → Int × α → Option σ} (xs : List α) (s : σ) (h : ∀ s (k : Nat) x, xs[k]? = some x → f s (k : Int) = g s ((k : Int), x)) : forN f s (rng 0 (xs.length : Int)) = forN g s (enumF 0 xs) := forN_index xs [] s h
theorem enumF_length {α : Type} : ∀ (k : Int) (xs : List α), (enumF k xs).length = xs.length
  | _, [] => rfl
  | k, _ :: ys => by show (enumF (k + 1) ys).length + 1 = ys.length + 1; rw [enumF_length]
theorem enumF_mem {α : Type} : ∀ (k : Int) (xs : List α) {p : Int × α}, p ∈ enumF k xs → p.2 ∈ xs
  | _, [], _, h => by cases h
  | k, y :: ys, p, h => by
    rcases List.mem_cons.mp h with rfl | h
    · exact List.mem_cons_self ..
    · exact List.mem_cons_of_mem _ (enumF_mem (k + 1) ys h)
theorem sortI_self {xs : List Int} (h : xs.Pairwise (· ≤ ·)) : sortI xs = xs := List.mergeSort_of_pairwise (List.Pairwise.imp (fun z => decide_eq_true z) h)
theorem at_mem {α : Type} {xs : List α} {i : Int} (h0 : 0 ≤ i) (h1 : i < xs.length) : ∃ x, at_ xs i = some x ∧ x ∈ xs := by
  obtain ⟨x, e, g⟩ := at_some h0 h1
  exact ⟨x, e, List.mem_of_getElem? g⟩
theorem popAt_ok {α : Type} {xs : List α} {i : Int} (h0 : 0 ≤ i) (h1 : i < xs.length) : ∃ x, popAt xs i = some (x, xs.eraseIdx i.toNat) := by
  have hj : i.toNat < xs.length := by omega
  refine ⟨xs[i.toNat], ?_⟩
  unfold popAt ixN
  rw [if_pos h0, if_pos h1, Option.bind_some, List.getElem?_eq_getElem hj]
  rfl
theorem guard_ok {c : Bool} (h : c = true) : guardO c = some () := if_pos h
theorem pairwise_flat {α : Type} {r : α → α → Prop} {h : α → List α} (hs : ∀ x, h x = [] ∨ h x = [x]) : ∀ {xs : List α}, xs.Pairwise r → (xs.flatMap h).Pairwise r ∧ ∀ y ∈ xs.flatMap h, y ∈ xs
  | [], _ => ⟨by rw [List.flatMap_nil]; exact .nil, fun y hy => by rw [List.flatMap_nil] at hy; exact hy⟩
  | x :: xs, p => by
    have pc := List.pairwise_cons.mp p
    obtain ⟨i1, i2⟩ := pairwise_flat hs pc.2
    rw [List.flatMap_cons]
    rcases hs x with e | e
    · rw [e, List.nil_append]
      exact ⟨i1, fun y hy => List.mem_cons_of_mem _ (i2 y hy)⟩
    · rw [e]
      refine ⟨List.pairwise_cons.mpr ⟨fun y hy => pc.1 y (i2 y hy), i1⟩, fun y hy => ?_⟩
      rcases List.mem_cons.mp hy with rfl | hy
      · exact List.mem_cons_self ..
      · exact List.mem_cons_of_mem _ (i2 y hy)
theorem rng_lt (lo hi : Int) : (rng lo hi).Pairwise (· < ·) := by
  unfold rng
  rw [List.pairwise_map]
  exact List.Pairwise.imp (fun h => by omega) List.pairwise_lt_range
theorem bd {α β : Type} {m : Option α} {f : α → Option β} {x : α} {r : Option β} (h : m = some x) (k : f x = r) : m.bind f = r := by rw [h]; exact k
theorem le_big {n : Nat} (h : n ≤ 100000) : n ≤ big := Nat.le_trans h (by decide)
theorem lt_big {n : Nat} (h : n ≤ 100000) : n < big := Nat.lt_of_le_of_lt h (by decide)
theorem flat_one {α : Type} : ∀ xs : List α, xs.flatMap (fun x => [x]) = xs
  | [] => rfl
  | x :: xs => by rw [List.flatMap_cons, flat_one xs]; rfl
theorem flat_le {α β : Type} {h : α → List β} (h1 : ∀ x, (h x).length ≤ 1) : ∀ xs : List α, (xs.flatMap h).length ≤ xs.length
  | [] => Nat.le_refl _
  | x :: xs => by rw [List.flatMap_cons, List.length_append, List.length_cons]; have := h1 x; have := flat_le h1 xs; omega
theorem ift {α : Type} {b : Bool} {x y r : Option α} (h : b = true) (k : x = r) : (if b = true then x else y) = r := by rw [if_pos h]; exact k
theorem iff' {α : Type} {b : Bool} {x y r : Option α} (h : b = false) (k : y = r) : (if b = true then x else y) = r := by rw [h, if_neg Bool.false_ne_true]; exact k
theorem forN_flatC {α β : Type} {f : List β → α → Option (List β)} (h : α → List β) (c : Nat) : ∀ {xs : List α} {acc : List β}, acc.length + c * xs.length ≤ 100000 → (∀ x ∈ xs, (h x).length ≤ c) → (∀ acc x, x ∈ xs → acc.length + c ≤ 100000 → f acc x = some (acc ++ h x)) → forN f acc xs = some (acc ++ xs.flatMap h)
  | [], acc, _, _, _ => by rw [List.flatMap_nil, List.append_nil]; rfl
  | x :: xs, acc, hb, h1, hf => by
    rw [List.length_cons, Nat.mul_add, Nat.mul_one] at hb
    rw [forN_cons, hf acc x (List.mem_cons_self ..) (by omega), Option.bind_some, forN_flatC h c (by rw [List.length_append]; have := h1 x (List.mem_cons_self ..); omega) (fun y hy => h1 y (List.mem_cons_of_mem _ hy)) fun a y hy => hf a y (List.mem_cons_of_mem _ hy), List.flatMap_cons, List.append_assoc]
theorem enumF_map {α β : Type} (g : α → β) : ∀ (k : Int) (xs : List α), enumF k (xs.map g) = (enumF k xs).map fun p => (p.1, g p.2)
  | _, [] => rfl
  | k, x :: xs => by show (k, g x) :: enumF (k + 1) (xs.map g) = (k, g x) :: _; rw [enumF_map g (k + 1) xs]
theorem flat_map {α β γ : Type} (g : α → β) (h : β → List γ) : ∀ xs : List α, (xs.map g).flatMap h = xs.flatMap fun x => h (g x)
  | [] => rfl
  | x :: xs => by rw [List.map_cons, List.flatMap_cons, List.flatMap_cons, flat_map g h xs]
theorem flat_sing {α β : Type} (g : α → β) : ∀ xs : List α, (xs.flatMap fun x => [g x]) = xs.map g
  | [] => rfl
  | x :: xs => by rw [List.flatMap_cons, flat_sing g xs]; rfl
theorem joinE_sing {α : Type} (g : α → Nat) : ∀ xs : List α, joinL [] (xs.map fun x => [g x]) = xs.map g
  | [] => rfl
  | [_] => rfl
  | x :: y :: r => by
    show [g x] ++ ([] ++ joinL [] ((y :: r).map fun x => [g x])) = _
    rw [joinE_sing g (y :: r)]; rfl
theorem sum_sing {α : Type} (g : α → Nat) : ∀ xs : List α, ((xs.map fun x => [g x]).map (·.length)).sum = xs.length
  | [] => rfl
  | x :: xs => by
    rw [List.map_cons, List.map_cons, List.sum_cons, sum_sing g xs]
    show 1 + xs.length = xs.length + 1
    omega
theorem sJoin_sing {α : Type} (g : α → Nat) {xs : List α} (h : xs.length ≤ 100000) : sJoin [] (xs.map fun x => [g x]) = some (xs.map g) := by
  unfold sJoin
  rw [sum_sing, joinE_sing, if_pos (by show xs.length + _ * 0 ≤ big; rw [Nat.mul_zero]; exact le_big h)]
theorem sLen_ok {s : List Nat} (h : s.length ≤ 100000) : sLen s = some (s.length : Int) := if_pos (le_big h)
theorem sAt_ok {s : List Nat} {i : Int} (h : s.length ≤ 100000) (h0 : 0 ≤ i) (h1 : i < s.length) : sAt s i = some [s[i.toNat]?.getD 0] ∧ s[i.toNat]?.getD 0 ∈ s := by
  obtain ⟨x, e, g⟩ := at_some h0 h1
  unfold sAt
  rw [if_pos (le_big h), e, g]
  exact ⟨rfl, List.mem_of_getElem? g⟩
theorem sCut_ok {s : List Nat} {lo hi : Option Int} (h : s.length ≤ 100000) : sCut s lo hi = some (cut s lo hi) := if_pos (le_big h)
theorem sCat_ok {s t : List Nat} (h : s.length + t.length ≤ 100000) : sCat s t = some (s ++ t) := if_pos (le_big h)
theorem cut_mem {α : Type} {xs : List α} {lo hi : Option Int} {x : α} (h : x ∈ cut xs lo hi) : x ∈ xs := List.mem_of_mem_drop (List.mem_of_mem_take h)
theorem cut_to {α : Type} {xs : List α} {i : Int} (h0 : 0 ≤ i) (h1 : i ≤ xs.length) : (cut xs none (some i)).length = i.toNat := by
  show ((xs.drop 0).take ((if i < 0 then (i + (xs.length : Int)).toNat else min i.toNat xs.length) - 0)).length = _
  rw [if_neg (by omega), List.length_take, List.length_drop]
  omega
theorem cut_from {α : Type} {xs : List α} {i : Int} (h0 : 0 ≤ i) (h1 : i ≤ xs.length) : (cut xs (some i) none).length = xs.length - i.toNat := by
  show ((xs.drop (if i < 0 then (i + (xs.length : Int)).toNat else min i.toNat xs.length)).take (xs.length - (if i < 0 then (i + (xs.length : Int)).toNat else min i.toNat xs.length))).length = _
  rw [if_neg (by omega), List.length_take, List.length_drop]
  omega
theorem map_erase {α β : Type} (f : α → β) : ∀ (xs : List α) (k : Nat), (xs.map f).eraseIdx k = (xs.eraseIdx k).map f
  | [], _ => rfl
  | x :: xs, 0 => rfl
  | x :: xs, k + 1 => by
    show f x :: (xs.map f).eraseIdx k = f x :: (xs.eraseIdx k).map f
    rw [map_erase f xs k]

/-! ### loops by what has been gone through -/
theorem forN_ind {α σ : Type} {f : σ → α → Option σ} (P : List α → σ → Prop) {xs : List α} {s0 : σ} (h0 : P [] s0) (h : ∀ pre x suf s, xs = pre ++ x :: suf → P pre s → ∃ s', f s x = some s' ∧ P (pre ++ [x]) s') : ∃ e, forN f s0 xs = some e ∧ P xs e := by
  have key : ∀ (suf pre : List α) (s : σ), xs = pre ++ suf → P pre s → ∃ e, forN f s suf = some e ∧ P xs e := by
    intro suf
    induction suf with
    | nil => intro pre s e p; rw [List.append_nil] at e; subst e; exact ⟨s, rfl, p⟩
    | cons x suf ih =>
      intro pre s e p
      obtain ⟨s', e1, p1⟩ := h pre x suf s e p
      obtain ⟨r, e2, p2⟩ := ih (pre ++ [x]) s' (by rw [e, List.append_assoc]; rfl) p1
      exact ⟨r, by rw [forN_cons, e1]; exact e2, p2⟩
  exact key xs [] s0 rfl h0
theorem forN_thru {α σ : Type} {f : σ → α → Option σ} (st : List α → σ) {xs : List α} {s0 : σ} (h0 : s0 = st []) (h : ∀ pre x suf, xs = pre ++ x :: suf → f (st pre) x = some (st (pre ++ [x]))) : forN f s0 xs = some (st xs) := by
  obtain ⟨e, h1, h2⟩ := forN_ind (f := f) (fun pre s => s = st pre) h0 (fun pre x suf s e p => ⟨_, by rw [p]; exact h pre x suf e, rfl⟩)
  rw [h1, h2]
theorem forR_thru {α σ ρ : Type} {f : σ → α → Option (ρ ⊕ σ)} (st : List α → σ) {xs : List α} {s0 : σ} (h0 : s0 = st []) (h : ∀ pre x suf, xs = pre ++ x :: suf → f (st pre) x = some (.inr (st (pre ++ [x])))) : forR f s0 xs = some (.inr (st xs)) := by
  subst h0
  have key : ∀ (suf pre : List α), xs = pre ++ suf → forR f (st pre) suf = some (.inr (st xs)) := by
    intro suf
    induction suf with
    | nil => intro pre e; rw [List.append_nil] at e; subst e; rfl
    | cons x suf ih =>
      intro pre e
      rw [forR_step (h pre x suf e)]
      exact ih (pre ++ [x]) (by rw [e, List.append_assoc]; rfl)
  exact key xs [] rfl
theorem mem_mid {α : Type} {xs pre suf : List α} {x : α} (e : xs = pre ++ x :: suf) : x ∈ xs := by rw [e]; exact List.mem_append_right _ (List.mem_cons_self ..)
theorem mem_pre {α : Type} {xs pre suf : List α} {x y : α} (e : xs = pre ++ x :: suf) (h : y ∈ pre) : y ∈ xs := by rw [e]; exact List.mem_append_left _ h
theorem rng_app (lo mid hi : Int) (h1 : lo ≤ mid) (h2 : mid ≤ hi) : rng lo hi = rng lo mid ++ rng mid hi := by
  have key : ∀ (n : Nat) (lo : Int), (mid - lo).toNat = n → lo ≤ mid → rng lo hi = rng lo mid ++ rng mid hi := by
    intro n
    induction n with
    | zero => intro lo e h; have : lo = mid := by omega
              subst this; rw [rng_nil (Int.le_refl _)]; rfl
    | succ n ih =>
      intro lo e h
      rw [rng_cons (lo := lo) (hi := hi) (by omega), rng_cons (lo := lo) (hi := mid) (by omega), ih (lo + 1) (by omega) (by omega)]; rfl
  exact key _ lo rfl h1
theorem rng_mid {lo hi : Int} {pre suf : List Int} {x : Int} (e : rng lo hi = pre ++ x :: suf) : x = lo + pre.length ∧ pre = rng lo x ∧ suf = rng (x + 1) hi ∧ x < hi := by
  induction pre generalizing lo with
  | nil =>
    by_cases h : lo < hi
    · rw [rng_cons h] at e
      obtain ⟨rfl, e2⟩ := List.cons.inj e
      exact ⟨by simp, by rw [rng_nil (Int.le_refl _)], e2.symm, h⟩
    · rw [rng_nil (by omega)] at e; cases e
  | cons y pre ih =>
    by_cases h : lo < hi
    · rw [rng_cons h] at e
      obtain ⟨rfl, e2⟩ := List.cons.inj e
      obtain ⟨h1, h2, h3, h4⟩ := ih e2
      have hl : lo < x := by rw [h1]; omega
      exact ⟨by rw [h1, List.length_cons]; omega, by rw [rng_cons hl, ← h2], h3, h4⟩
    · rw [rng_nil (by omega)] at e; cases e
theorem at_rng {lo hi i : Int} (h0 : 0 ≤ i) (h1 : lo + i < hi) : at_ (rng lo hi) i = some (lo + i) := by
  refine at_int h0 ?_
  unfold rng
  rw [List.getElem?_map, List.getElem?_range (by omega)]
  show some (lo + (i.toNat : Int)) = _
  rw [Int.toNat_of_nonneg h0]
theorem setAt_ok {α : Type} {xs : List α} {i : Int} {x : α} (h0 : 0 ≤ i) (h1 : i < xs.length) : setAt xs i x = some (xs.set i.toNat x) := by
  unfold setAt ixN
  rw [if_pos h0, if_pos h1]; rfl
theorem at_get {α : Type} {xs : List α} {i : Int} {d : α} (h0 : 0 ≤ i) (h1 : i < xs.length) : at_ xs i = some (xs[i.toNat]?.getD d) := by
  obtain ⟨x, e, g⟩ := at_some h0 h1
  rw [e, g]; rfl
theorem contains_true {α : Type} [BEq α] [LawfulBEq α] {xs : List α} {x : α} (h : x ∈ xs) : xs.contains x = true := by rw [List.contains_iff_mem]; exact h
theorem contains_false {α : Type} [BEq α] [LawfulBEq α] {xs : List α} {x : α} (h : x ∉ xs) : xs.contains x = false := by
  cases e : xs.contains x with
  | false => rfl
  | true => exact absurd (List.contains_iff_mem.mp e) h
theorem nodup_mid {α : Type} {xs pre suf : List α} {x : α} (e : xs = pre ++ x :: suf) (h : xs.Nodup) : x ∉ pre := by
  intro hm
  rw [e] at h
  exact (List.pairwise_append.mp h).2.2 x hm x (List.mem_cons_self ..) rfl
theorem lt_nodup {xs : List Int} (h : xs.Pairwise (· < ·)) : xs.Nodup := List.Pairwise.imp (fun z e => by omega) h
theorem lt_len {xs : List Int} {n : Nat} (hp : xs.Pairwise (· < ·)) (hb : ∀ x ∈ xs, 0 ≤ x ∧ x < (n : Int)) : xs.length ≤ n := by
  have h2 : ∀ (n : Nat) (l : List Int) (lo : Int), l.Pairwise (· < ·) → (∀ x ∈ l, lo ≤ x ∧ x < lo + n) → l.length ≤ n := by
    intro n
    induction n with
    | zero =>
      intro l lo _ hb
      cases l with
      | nil => exact Nat.le_refl _
      | cons x l => have := hb x (List.mem_cons_self ..); omega
    | succ n ih =>
      intro l lo hp hb
      cases l with
      | nil => exact Nat.zero_le _
      | cons x l =>
        have hx := hb x (List.mem_cons_self ..)
        have pc := List.pairwise_cons.mp hp
        have := ih l (lo + 1) pc.2 (fun y hy => by
          have h1 := pc.1 y hy
          have h2 := hb y (List.mem_cons_of_mem _ hy)
          omega)
        rw [List.length_cons]; omega
  exact h2 n xs 0 hp (fun x hx => by have := hb x hx; omega)
theorem bdE {α β : Type} {m : Option α} {f : α → Option β} {x : α} {P : β → Prop} (h : m = some x) (k : ∃ r, f x = some r ∧ P r) : ∃ r, m.bind f = some r ∧ P r := by rw [h]; exact k
theorem bf {b : Bool} (h : ¬ b = true) : b = false := by cases b with
  | false => rfl
  | true => exact absurd rfl h
theorem rngL_ok {lo hi : Int} (h1 : -(2 ^ 60) ≤ lo) (h2 : lo < 2 ^ 60) (h3 : -(2 ^ 60) ≤ hi) (h4 : hi < 2 ^ 60) (h5 : (hi - lo).toNat ≤ 1000000) : rngL lo hi = some (rng lo hi) := by
  unfold rngL
  exact if_pos ⟨⟨h1, h2⟩, ⟨h3, h4⟩, h5⟩
theorem rep_flat {α : Type} (x : α) : ∀ n : Nat, (List.replicate n [x]).flatten = List.replicate n x
  | 0 => rfl
  | n + 1 => by rw [List.replicate_succ, List.flatten_cons, rep_flat x n, List.replicate_succ]; rfl
theorem repL_one {α : Type} (x : α) {n : Nat} (h : n ≤ 100000) : repL [x] (n : Int) = some (List.replicate n x) := by
  unfold repL
  have h2 : [x].length * ((n : Int)).toNat ≤ big := by
    rw [List.length_singleton, Nat.one_mul, Int.toNat_natCast]; exact le_big h
  rw [if_pos ⟨by omega, by omega, h2⟩, Int.toNat_natCast, rep_flat]
theorem bdP {α β γ : Type} {m : Option α} {f : α → Option (β × γ)} {x : α} {P : β → γ → Prop} (h : m = some x) (k : ∃ r h', f x = some (r, h') ∧ P r h') : ∃ r h', m.bind f = some (r, h') ∧ P r h' := by rw [h]; exact k
theorem iftP {β γ : Type} {b : Bool} {x y : Option (β × γ)} {P : β → γ → Prop} (h : b = true) (k : ∃ r h', x = some (r, h') ∧ P r h') : ∃ r h', (if b = true then x else y) = some (r, h') ∧ P r h' := by rw [if_pos h]; exact k
theorem iffP {β γ : Type} {b : Bool} {x y : Option (β × γ)} {P : β → γ → Prop} (h : b = false) (k : ∃ r h', y = some (r, h') ∧ P r h') : ∃ r h', (if b = true then x else y) = some (r, h') ∧ P r h' := by rw [h, if_neg Bool.false_ne_true]; exact k
theorem ltE {α β : Type} {e : α} {f : α → Option β} {r : Option β} (k : f e = r) : pyLet e f = r := k
theorem ltP' {α β γ : Type} {e : α} {f : α → Option (β × γ)} {P : β → γ → Prop} (k : ∃ r h', f e = some (r, h') ∧ P r h') : ∃ r h', pyLet e f = some (r, h') ∧ P r h' := k
theorem bdQ {α β γ : Type} {m : Option α} {f : α → Option (β × γ)} {x : α} {P : β → γ → Prop} (h : m = some x) (k : ∃ r h', f x = some (r, h') ∧ P r h') : ∃ r h', m.bind f = some (r, h') ∧ P r h' := bdP h k
theorem fmax (xs : List Int) : ∀ a : Int, (xs.foldl max a = a ∨ xs.foldl max a ∈ xs) ∧ a ≤ xs.foldl max a ∧ ∀ y ∈ xs, y ≤ xs.foldl max a := by
  induction xs with
  | nil => intro a; exact ⟨.inl rfl, Int.le_refl _, fun y h => nomatch h⟩
  | cons x xs ih =>
    intro a
    obtain ⟨h1, h2, h3⟩ := ih (max a x)
    show (xs.foldl max (max a x) = a ∨ _) ∧ a ≤ xs.foldl max (max a x) ∧ _
    refine ⟨?_, by omega, fun y hy => ?_⟩
    · rcases h1 with h1 | h1
      · by_cases hax : x ≤ a
        · exact .inl (by rw [h1]; omega)
        · refine .inr (List.mem_cons.mpr (.inl ?_)); show xs.foldl max (max a x) = x; rw [h1]; omega
      · exact .inr (List.mem_cons_of_mem _ h1)
    · show y ≤ xs.foldl max (max a x)
      rcases List.mem_cons.mp hy with rfl | hy
      · omega
      · exact h3 y hy
theorem lMax_is {xs : List Int} {m : Int} (h : lMax xs = some m) : 0 < xs.length ∧ m ∈ xs ∧ ∀ y ∈ xs, y ≤ m := by
  cases xs with
  | nil => cases h
  | cons x xs =>
    obtain rfl : (x :: xs).foldl max x = m := Option.some.inj h
    obtain ⟨h1, h2, h3⟩ := fmax (x :: xs) x
    refine ⟨Nat.succ_pos _, ?_, h3⟩
    rcases h1 with h1 | h1
    · rw [h1]; exact List.mem_cons_self ..
    · exact h1

/-! ### a drawn sea -/
abbrev SeaT := List Int × List (Int × Int) × List Int × List Int
def LanesU (n : Int) (ls : List (Int × Int)) : Prop := (∀ p ∈ ls, 0 ≤ p.1 ∧ p.1 < p.2 ∧ p.2 < n) ∧ ls.Nodup ∧ ls.length ≤ 66
def TideOk (t : List Int) : Prop := 1 ≤ t.length ∧ t.length ≤ 12 ∧ ∀ x ∈ t, 0 ≤ x ∧ x ≤ 20
def DeepOk (t : List Int) : Prop := 1 ≤ t.length ∧ t.length ≤ 12 ∧ ∀ x ∈ t, 0 ≤ x ∧ x ≤ 99
def PortOk (n : Int) (t : List Int) : Prop := t.Pairwise (· < ·) ∧ ∀ x ∈ t, 0 ≤ x ∧ x < n
def SeaOk (s : SeaT) : Prop := DeepOk s.1 ∧ LanesU s.1.length s.2.1 ∧ TideOk s.2.2.1 ∧ PortOk s.1.length s.2.2.2
theorem some_ok {h : List Int} (hh : Hd h) {n c : Int} (n0 : 0 ≤ n) (n1 : n ≤ 1000) (c0 : 1 ≤ c) (c1 : c ≤ 1000) : ∃ z h', m_l_some h n c = some (z, h') ∧ PortOk n z ∧ Hd h' := by
  simp only [m_l_some]
  rw [rngO_ok (by decide) (by decide) (by omega) (by omega)]; simp only [Option.bind_some]
  obtain ⟨e, he, p1, p2, p3, _⟩ := forN_ind (f := m_l_some_b1 c) (xs := rng 0 n) (s0 := (h, ([] : List Int))) (fun pre s => Hd s.1 ∧ s.2.Pairwise (· < ·) ∧ (∀ x ∈ s.2, 0 ≤ x ∧ x < (pre.length : Int)) ∧ s.2.length ≤ pre.length) ⟨hh, .nil, (fun x hx => nomatch hx), Nat.le_refl _⟩ (fun pre x suf s e hp => by
    obtain ⟨hs, hp1, hp2, hl⟩ := hp
    obtain ⟨e1, e2, _, e4⟩ := rng_mid e
    obtain ⟨r, h1, er, r0, r1, hh1⟩ := pick_ok hs (n := c) c0 (by omega)
    simp only [m_l_some_b1]
    rw [er]; simp only [Option.bind_some]
    have hl2 : ((pre ++ [x]).length : Int) = (pre.length : Int) + 1 := by rw [List.length_append]; rfl
    have hl3 : (pre ++ [x]).length = pre.length + 1 := by rw [List.length_append]; rfl
    by_cases c : r = 0
    · rw [if_pos (decide_eq_true c), app_ok (xs := s.2) (lt_big (by omega))]; simp only [Option.bind_some]
      refine ⟨_, rfl, hh1, ?_, ?_, ?_⟩
      · show (s.2 ++ [x]).Pairwise (· < ·)
        rw [List.pairwise_append]
        exact ⟨hp1, List.pairwise_singleton .., fun a ha b hb => by rw [List.mem_singleton] at hb; subst hb; have := hp2 a ha; omega⟩
      · intro y hy
        rcases List.mem_append.mp hy with hy | hy
        · have := hp2 y hy; omega
        · rw [List.mem_singleton] at hy; omega
      · show (s.2 ++ [x]).length ≤ _; rw [List.length_append, hl3]; show s.2.length + 1 ≤ _; omega
    · rw [if_neg (by simpa using c)]; simp only [Option.bind_some]
      exact ⟨_, rfl, hh1, hp1, fun y hy => by have := hp2 y hy; omega, by show s.2.length ≤ _; omega⟩)
  rw [he]; simp only [Option.bind_some]
  refine ⟨_, _, rfl, ⟨p2, fun x hx => ?_⟩, p1⟩
  have := p3 x hx
  rw [rng_length] at this; omega
theorem sea_ok {h : List Int} (hh : Hd h) {n : Int} (n0 : 1 ≤ n) (n1 : n ≤ 12) : ∃ s h', m_l_sea h n = some (s, h') ∧ SeaOk s ∧ Hd h' ∧ (s.1.length : Int) ≤ n ∧ s.2.2.1.length ≤ 3 ∧ ∃ r, s.2.2.1 = 0 :: r := by
  simp only [m_l_sea, pyLet]
  obtain ⟨a, h1, e1, a0, a1, hh1⟩ := pick_ok hh (n := n) n0 (by omega)
  rw [e1]; simp only [Option.bind_some]
  obtain ⟨b, h2, e2, b0, b1, hh2⟩ := pick_ok hh1 (n := 3) (by decide) (by decide)
  rw [e2]; simp only [Option.bind_some]
  obtain ⟨sp, e3, m3⟩ := at_mem (xs := [(2 : Int), (6 : Int), (100 : Int)]) b0 b1
  rw [e3]; simp only [Option.bind_some]
  have sp1 : 1 ≤ sp ∧ sp ≤ 100 := by simp at m3; omega
  obtain ⟨c, h3, e4, c0, c1, hh3⟩ := pick_ok hh2 (n := 3) (by decide) (by decide)
  rw [e4]; simp only [Option.bind_some]
  obtain ⟨sw, e5, m5⟩ := at_mem (xs := [(1 : Int), (4 : Int), (21 : Int)]) c0 c1
  rw [e5]; simp only [Option.bind_some]
  have sw1 : 1 ≤ sw ∧ sw ≤ 21 := by simp at m5; omega
  rw [rngO_ok (by decide) (by decide) (by omega) (by omega)]; simp only [Option.bind_some]
  obtain ⟨q, eq, q1, q2, q3, q4, q5, q6⟩ := forN_ind (f := m_l_sea_b1 sp) (xs := rng 0 (1 + a)) (s0 := (h3, ([] : List Int), ([] : List (Int × Int)))) (fun pre s => Hd s.1 ∧ s.2.1.length = pre.length ∧ (∀ x ∈ s.2.1, 0 ≤ x ∧ x ≤ 99) ∧ (∀ p ∈ s.2.2, 0 ≤ p.1 ∧ p.1 < p.2 ∧ p.2 < (pre.length : Int)) ∧ s.2.2.Nodup ∧ 2 * s.2.2.length + pre.length ≤ pre.length * pre.length) ⟨hh3, rfl, (fun x hx => nomatch hx), (fun x hx => nomatch hx), .nil, Nat.le_refl _⟩ (fun pre x suf s e hp => by
    obtain ⟨p1, p2, p3, p4, p5, p6⟩ := hp
    obtain ⟨g1, g2, _, g4⟩ := rng_mid e
    have hl2 : ((pre ++ [x]).length : Int) = (pre.length : Int) + 1 := by rw [List.length_append]; rfl
    have hl3 : (pre ++ [x]).length = pre.length + 1 := by rw [List.length_append]; rfl
    have pl : pre.length ≤ 12 := by omega
    have pm : pre.length * pre.length ≤ 12 * 12 := Nat.mul_le_mul pl pl
    simp only [m_l_sea_b1]
    obtain ⟨d, h4, e6, d0, d1, hh4⟩ := pick_ok p1 (n := sp) (by omega) (by omega)
    rw [e6]; simp only [Option.bind_some]
    rw [app_ok (xs := s.2.1) (lt_big (by omega))]; simp only [Option.bind_some]
    rw [rngO_ok (by decide) (by decide) (by omega) (by omega)]; simp only [Option.bind_some]
    obtain ⟨u, eu, u1, u2, u3, u4⟩ := forN_ind (f := m_l_sea_b2 x) (xs := rng 0 x) (s0 := (h4, s.2.2)) (fun pr t => Hd t.1 ∧ (∀ p ∈ t.2, p ∈ s.2.2 ∨ (p.2 = x ∧ 0 ≤ p.1 ∧ p.1 < (pr.length : Int))) ∧ t.2.Nodup ∧ t.2.length ≤ s.2.2.length + pr.length) ⟨hh4, fun p hp => .inl hp, p5, Nat.le_refl _⟩ (fun pr y sf t e' hp' => by
      obtain ⟨t1, t2, t3, t4⟩ := hp'
      obtain ⟨k1, _, _, k4⟩ := rng_mid e'
      have kl2 : ((pr ++ [y]).length : Int) = (pr.length : Int) + 1 := by rw [List.length_append]; rfl
      have kl3 : (pr ++ [y]).length = pr.length + 1 := by rw [List.length_append]; rfl
      simp only [m_l_sea_b2]
      obtain ⟨z, h5, e7, z0, z1, hh5⟩ := pick_ok t1 (n := 4) (by decide) (by decide)
      rw [e7]; simp only [Option.bind_some]
      by_cases cz : 0 < z
      · rw [if_pos (decide_eq_true cz), app_ok (xs := t.2) (lt_big (by omega))]; simp only [Option.bind_some]
        refine ⟨_, rfl, hh5, ?_, ?_, ?_⟩
        · intro p hp
          rcases List.mem_append.mp hp with hp | hp
          · rcases t2 p hp with h | h
            · exact .inl h
            · exact .inr ⟨h.1, h.2.1, by omega⟩
          · rw [List.mem_singleton] at hp; subst hp; exact .inr ⟨rfl, by show 0 ≤ y; omega, by show y < _; omega⟩
        · show (t.2 ++ [(y, x)]).Nodup
          rw [List.nodup_append]
          refine ⟨t3, List.nodup_cons.mpr ⟨List.not_mem_nil, .nil⟩, fun p hp p' hp' => ?_⟩
          rw [List.mem_singleton] at hp'; subst hp'
          intro he; subst he
          rcases t2 _ hp with h | h
          · have := p4 _ h; simp only at this; omega
          · have := h.2.2; simp only at this; omega
        · show (t.2 ++ [(y, x)]).length ≤ _; rw [List.length_append, kl3]; show t.2.length + 1 ≤ _; omega
      · rw [if_neg (by simpa using cz)]; simp only [Option.bind_some]
        exact ⟨_, rfl, hh5, fun p hp => by
          rcases t2 p hp with h | h
          · exact .inl h
          · exact .inr ⟨h.1, h.2.1, by omega⟩, t3, by show t.2.length ≤ _; omega⟩)
    rw [eu]; simp only [Option.bind_some]
    rw [rng_length] at u2 u4
    refine ⟨_, rfl, u1, ?_, ?_, ?_, u3, ?_⟩
    · show (s.2.1 ++ [d]).length = _; rw [List.length_append, hl3, p2]; rfl
    · intro y hy
      rcases List.mem_append.mp hy with hy | hy
      · exact p3 y hy
      · rw [List.mem_singleton] at hy; subst hy; omega
    · intro p hp
      rcases u2 p hp with h | h
      · have := p4 p h; omega
      · omega
    · show 2 * u.2.length + _ ≤ _
      have hx : (x - 0).toNat = pre.length := by omega
      rw [hl3, Nat.add_mul, Nat.mul_add]
      omega)
  rw [eq]; simp only [Option.bind_some]
  rw [rng_length] at q2 q4 q6
  have hn : (1 + a - 0).toNat = (1 + a).toNat := by omega
  obtain ⟨d, h4, e6, d0, d1, hh4⟩ := pick_ok q1 (n := 3) (by decide) (by decide)
  rw [e6]; simp only [Option.bind_some]
  rw [rngO_ok (by decide) (by decide) (by omega) (by omega)]; simp only [Option.bind_some]
  obtain ⟨u, eu, u1, u2, u3, u4⟩ := forN_ind (f := m_l_sea_b3 sw) (xs := rng 0 d) (s0 := (h4, [(0 : Int)])) (fun pr t => Hd t.1 ∧ (∀ y ∈ t.2, 0 ≤ y ∧ y ≤ 20) ∧ t.2.length = 1 + pr.length ∧ ∃ r, t.2 = 0 :: r) ⟨hh4, (fun y hy => by rw [List.mem_singleton] at hy; omega), rfl, [], rfl⟩ (fun pr y sf t e' hp' => by
    obtain ⟨t1, t2, t3, r, t4⟩ := hp'
    obtain ⟨k1, _, _, k4⟩ := rng_mid e'
    simp only [m_l_sea_b3]
    obtain ⟨z, h5, e7, z0, z1, hh5⟩ := pick_ok t1 (n := sw) (by omega) (by omega)
    rw [e7]; simp only [Option.bind_some]
    rw [app_ok (xs := t.2) (lt_big (by omega))]; simp only [Option.bind_some]
    refine ⟨_, rfl, hh5, ?_, ?_, r ++ [z], ?_⟩
    · intro p hp
      rcases List.mem_append.mp hp with hp | hp
      · exact t2 p hp
      · rw [List.mem_singleton] at hp; omega
    · show (t.2 ++ [z]).length = _; rw [List.length_append, List.length_append, t3]; rfl
    · show t.2 ++ [z] = _; rw [t4]; rfl)
  rw [eu]; simp only [Option.bind_some]
  rw [rng_length] at u3
  obtain ⟨z, h5, e8, hz, hh5⟩ := some_ok u1 (n := 1 + a) (c := 4) (by omega) (by omega) (by decide) (by decide)
  rw [e8]; simp only [Option.bind_some]
  have ql : (q.2.1.length : Int) = 1 + a := by omega
  refine ⟨_, _, rfl, ⟨⟨?_, ?_, q3⟩, ⟨?_, q5, ?_⟩, ⟨?_, ?_, u2⟩, ?_⟩, hh5, ?_, ?_, u4⟩
  · show 1 ≤ q.2.1.length; omega
  · show q.2.1.length ≤ 12; omega
  · intro p hp
    have := q4 p hp
    show _ ∧ _ ∧ p.2 < (q.2.1.length : Int); omega
  · show q.2.2.length ≤ 66
    have hm : (1 + a - 0).toNat * (1 + a - 0).toNat ≤ 12 * (1 + a - 0).toNat := Nat.mul_le_mul_right _ (by omega)
    omega
  · show 1 ≤ u.2.length; omega
  · show u.2.length ≤ 12; omega
  · show PortOk (q.2.1.length : Int) z; rw [ql]; exact hz
  · show (q.2.1.length : Int) ≤ n; omega
  · show u.2.length ≤ 3; omega

/-! ### a chart -/
def nrm (p : Int × Int) : Int × Int := (min p.1 p.2, max p.1 p.2)
/-- lanes in any direction -/
def LanesG (n : Int) (ls : List (Int × Int)) : Prop := (∀ p ∈ ls, 0 ≤ (nrm p).1 ∧ (nrm p).1 < (nrm p).2 ∧ (nrm p).2 < n) ∧ (ls.map nrm).Nodup ∧ ls.length ≤ 66
def HarbG (n : Int) (t : List Int) : Prop := t.Nodup ∧ (∀ x ∈ t, 0 ≤ x ∧ x < n) ∧ t.length ≤ 12
theorem nrm_up {p : Int × Int} (h : p.1 < p.2) : nrm p = p := Prod.ext (by show min p.1 p.2 = p.1; omega) (by show max p.1 p.2 = p.2; omega)
theorem map_nrm {ls : List (Int × Int)} (h : ∀ p ∈ ls, p.1 < p.2) : ls.map nrm = ls := by
  induction ls with
  | nil => rfl
  | cons p ls ih => rw [List.map_cons, nrm_up (h p (List.mem_cons_self ..)), ih fun q hq => h q (List.mem_cons_of_mem _ hq)]
theorem LanesU.g {n : Int} {ls : List (Int × Int)} (h : LanesU n ls) : LanesG n ls := by
  have e := map_nrm fun p hp => (h.1 p hp).2.1
  exact ⟨fun p hp => by rw [nrm_up (h.1 p hp).2.1]; exact h.1 p hp, by rw [e]; exact h.2.1, h.2.2⟩
theorem PortOk.g {n : Nat} {t : List Int} (h : PortOk n t) (hn : n ≤ 12) : HarbG n t := ⟨lt_nodup h.1, h.2, Nat.le_trans (lt_len h.1 h.2) hn⟩

theorem numbers_ok_0 {xs : List Int} {m g : Int} (h1 : 1 ≤ xs.length) (h2 : (xs.length : Int) ≤ m) (h : ∀ x ∈ xs, 0 ≤ x ∧ x ≤ g) : m_good_numbers xs m g = some true := by
  simp only [m_good_numbers]
  refine iff' (by simp; omega) ?_
  refine bd (forR_all fun x hx => ?_) rfl
  have := h x hx
  simp only [m_good_numbers_b1]
  exact iff' (by simp; omega) rfl
theorem depths_ok_0 {xs : List Int} (h : DeepOk xs) : m_good_depths xs = some true := by
  simp only [m_good_depths]
  exact bd (numbers_ok_0 h.1 (by have := h.2.1; omega) h.2.2) rfl
theorem tide_ok_0 {xs : List Int} (h : TideOk xs) : m_good_tide xs = some true := by
  simp only [m_good_tide]
  exact bd (numbers_ok_0 h.1 (by have := h.2.1; omega) h.2.2) rfl
theorem harb_ok_0 {xs : List Int} {n : Int} (h : HarbG n xs) : m_good_harbours xs n = some true := by
  simp only [m_good_harbours, m_is_zone_0]
  refine bd (bd (forR_thru (fun pre => pre) rfl fun pre x suf e => ?_) rfl) rfl
  have hx := h.2.1 x (mem_mid e)
  have hl : pre.length ≤ 12 := by have := congrArg List.length e; rw [List.length_append] at this; have := h.2.2; omega
  have hc := contains_false (nodup_mid e h.1)
  simp only [m_is_zone_0_b1]
  refine iff' (by rw [hc]; simp; omega) ?_
  refine bd (show sadd pre x = some (pre ++ [x]) from ?_) rfl
  unfold sadd
  rw [if_pos (by omega), hc]; rfl
theorem lanes_ok_0 {ls : List (Int × Int)} {n : Int} (h : LanesG n ls) : m_good_lanes ls n = some true := by
  simp only [m_good_lanes]
  refine bd (forR_thru (fun pre => pre.map nrm) rfl fun pre x suf e => ?_) rfl
  have hx := h.1 x (mem_mid e)
  have hl : pre.length ≤ 66 := by have := congrArg List.length e; rw [List.length_append] at this; have := h.2.2; omega
  have hc : (pre.map nrm).contains (nrm x) = false := contains_false (nodup_mid (xs := ls.map nrm) (suf := suf.map nrm) (by rw [e, List.map_append, List.map_cons]) h.2.1)
  simp only [m_good_lanes_b1, pyLet]
  have c1 : ¬ (min x.1 x.2 : Int) < 0 := by have := hx.1; unfold nrm at this; simp only at this; omega
  have c2 : ¬ n ≤ (max x.1 x.2 : Int) := by have := hx.2.2; unfold nrm at this; simp only at this; omega
  have c3 : ¬ (min x.1 x.2 : Int) = (max x.1 x.2 : Int) := by have := hx.2.1; unfold nrm at this; simp only at this; omega
  refine bd (iff' (decide_eq_false c1) (iff' (decide_eq_false c2) (iff' (decide_eq_false c3) (congrArg some hc)))) ?_
  refine iff' rfl ?_
  refine bd (show saddP (pre.map nrm) (nrm x) = some (pre.map nrm ++ [nrm x]) from ?_) (by rw [List.map_append]; rfl)
  unfold saddP
  rw [if_pos (by rw [List.length_map]; omega), hc]; rfl
theorem ordered_ok_0 {ls : List (Int × Int)} (h : ls.length ≤ 66) : m_ordered_lanes ls = some (sortP (ls.map nrm)) := by
  simp only [m_ordered_lanes]
  refine bd (forN_thru (fun pre => pre.map nrm) rfl fun pre x suf e => ?_) rfl
  have hl : pre.length ≤ 66 := by have := congrArg List.length e; rw [List.length_append] at this; omega
  simp only [m_ordered_lanes_b1]
  refine bd (app_ok (xs := pre.map nrm) (lt_big (by rw [List.length_map]; omega))) (by rw [List.map_append]; rfl)

/-- the neighbours of a place, in the order of the lanes -/
def nbOf (ls : List (Int × Int)) (p : Int) : List Int := ls.flatMap fun q => if q.1 = p then [q.2] else if q.2 = p then [q.1] else []
theorem nbOf_le (ls : List (Int × Int)) (p : Int) : (nbOf ls p).length ≤ ls.length := flat_le (fun q => by by_cases h1 : q.1 = p <;> by_cases h2 : q.2 = p <;> simp [h1, h2]) ls
def rowsOf (n : Nat) (ls : List (Int × Int)) : List (List Int) := (List.range n).map fun (k : Nat) => nbOf ls (k : Int)
theorem nbOf_app (ls : List (Int × Int)) (q : Int × Int) (p : Int) : nbOf (ls ++ [q]) p = nbOf ls p ++ (if q.1 = p then [q.2] else if q.2 = p then [q.1] else []) := by
  unfold nbOf
  rw [List.flatMap_append, List.flatMap_cons, List.flatMap_nil, List.append_nil]
theorem rowsOf_at {n : Nat} {ls : List (Int × Int)} {k : Nat} (h : k < n) : (rowsOf n ls)[k]? = some (nbOf ls (k : Int)) := by
  unfold rowsOf
  rw [List.getElem?_map, List.getElem?_range h]; rfl
theorem rowsOf_len (n : Nat) (ls : List (Int × Int)) : (rowsOf n ls).length = n := by unfold rowsOf; rw [List.length_map, List.length_range]
theorem appIn_ok {α : Type} {xs : List (List α)} {i : Int} {x : α} {row : List α} (h0 : 0 ≤ i) (hr : xs[i.toNat]? = some row) (hl : row.length ≤ 100000) : appIn xs i x = some (xs.set i.toNat (row ++ [x])) := by
  have hj : i.toNat < xs.length := (List.getElem?_eq_some_iff.mp hr).1
  unfold appIn ixN
  rw [if_pos h0, if_pos (by omega), Option.bind_some, hr, Option.bind_some, app_ok (lt_big hl)]; rfl
theorem joined_ok {n : Nat} {ls : List (Int × Int)} (hn : n ≤ 100) (hl : ls.length ≤ 66) (h : ∀ p ∈ ls, 0 ≤ p.1 ∧ p.1 < p.2 ∧ p.2 < n) : m_joined_places (n : Int) ls = some (rowsOf n ls) := by
  simp only [m_joined_places]
  rw [rngO_ok (by decide) (by decide) (by omega) (by omega)]; simp only [Option.bind_some]
  rw [forN_thru (f := m_joined_places_b1) (s0 := ([] : List (List Int))) (fun pre => (pre.map fun _ => ([] : List Int))) rfl (fun pre x suf e => by
    have hl2 : pre.length ≤ 100 := by have := congrArg List.length e; rw [List.length_append, rng_length] at this; omega
    simp only [m_joined_places_b1]
    exact bd (app_ok (xs := pre.map fun _ => ([] : List Int)) (lt_big (by rw [List.length_map]; omega))) (by rw [List.map_append]; rfl))]
  simp only [Option.bind_some]
  have e0 : (rng 0 (n : Int)).map (fun _ => ([] : List Int)) = rowsOf n [] := by
    unfold rowsOf rng
    rw [List.map_map]
    have : ((n : Int) - 0).toNat = n := by omega
    rw [this]; rfl
  rw [e0]
  rw [forN_thru (f := m_joined_places_b2) (rowsOf n) rfl (fun pre x suf e => by
    obtain ⟨h1, h2, h3⟩ := h x (mem_mid e)
    have hp : pre.length ≤ 66 := by have := congrArg List.length e; rw [List.length_append] at this; omega
    have k1 : x.1.toNat < n := by omega
    have k2 : x.2.toNat < n := by omega
    have i1 : ((x.1.toNat : Nat) : Int) = x.1 := by omega
    have i2 : ((x.2.toNat : Nat) : Int) = x.2 := by omega
    have r1 := rowsOf_at (ls := pre) k1
    have r2 := rowsOf_at (ls := pre) k2
    rw [i1] at r1; rw [i2] at r2
    simp only [m_joined_places_b2]
    refine bd (at_int h1 r1) ?_
    refine bd (appIn_ok h1 r1 (Nat.le_trans (nbOf_le _ _) (by omega))) ?_
    have r3 : ((rowsOf n pre).set x.1.toNat (nbOf pre x.1 ++ [x.2]))[x.2.toNat]? = some (nbOf pre x.2) := by
      rw [List.getElem?_set_ne (by omega)]; exact r2
    refine bd (at_int (by omega) r3) ?_
    refine bd (appIn_ok (by omega) r3 (Nat.le_trans (nbOf_le _ _) (by omega))) ?_
    congr 1
    apply List.ext_getElem?
    intro k
    by_cases hk : k < n
    · rw [rowsOf_at hk, nbOf_app]
      by_cases c2 : x.2.toNat = k
      · subst c2
        rw [List.getElem?_set_self (by rw [List.length_set, rowsOf_len]; exact hk), i2, if_neg (by omega), if_pos rfl]
      · rw [List.getElem?_set_ne c2]
        by_cases c1 : x.1.toNat = k
        · subst c1
          rw [List.getElem?_set_self (by rw [rowsOf_len]; exact hk), i1, if_pos rfl]
        · rw [List.getElem?_set_ne c1, rowsOf_at hk, if_neg (by omega), if_neg (by omega), List.append_nil]
    · rw [List.getElem?_eq_none (by rw [List.length_set, List.length_set, rowsOf_len]; omega), List.getElem?_eq_none (by rw [rowsOf_len]; omega)])]
  simp only [Option.bind_some]
  rw [forN_thru (f := m_joined_places_b3) (s0 := ([] : List (List Int))) (fun pre => pre) rfl (fun pre x suf e => by
    have hl2 : pre.length ≤ 100 := by have := congrArg List.length e; rw [List.length_append, rowsOf_len] at this; omega
    simp only [m_joined_places_b3]
    exact bd (app_ok (xs := pre) (lt_big (by omega))) rfl)]
  simp only [Option.bind_some]
theorem sortP_mem {xs : List (Int × Int)} {p : Int × Int} : p ∈ sortP xs ↔ p ∈ xs := (List.mergeSort_perm xs leP).mem_iff
theorem sortP_len {xs : List (Int × Int)} : (sortP xs).length = xs.length := (List.mergeSort_perm xs leP).length_eq
abbrev ChT := Int × List Int × List (Int × Int) × List Int × List Int × List (List Int)
/-- what a chart holds -/
def chOf (d : List Int) (ls : List (Int × Int)) (t hs : List Int) : ChT := ((d.length : Int), d, sortP (ls.map nrm), t, sortI hs, rowsOf d.length (sortP (ls.map nrm)))
theorem joined_of {n : Nat} {ls : List (Int × Int)} (hn : n ≤ 12) (h : LanesG n ls) : m_joined_places (n : Int) (sortP (ls.map nrm)) = some (rowsOf n (sortP (ls.map nrm))) :=
  joined_ok (by omega) (by rw [sortP_len, List.length_map]; exact h.2.2) (fun p hp => by
    rw [sortP_mem, List.mem_map] at hp
    obtain ⟨q, hq, rfl⟩ := hp
    exact h.1 q hq)

/-! ### lists that ascend -/
theorem asc_ext {α : Type} {r : α → α → Prop} (asy : ∀ a b, r a b → r b a → False) : ∀ {xs ys : List α}, xs.Pairwise r → ys.Pairwise r → (∀ a, a ∈ xs ↔ a ∈ ys) → xs = ys
  | [], [], _, _, _ => rfl
  | [], y :: ys, _, _, h => absurd ((h y).mpr (List.mem_cons_self ..)) List.not_mem_nil
  | x :: xs, [], _, _, h => absurd ((h x).mp (List.mem_cons_self ..)) List.not_mem_nil
  | x :: xs, y :: ys, h1, h2, h => by
    have p1 := List.pairwise_cons.mp h1
    have p2 := List.pairwise_cons.mp h2
    have e : x = y := by
      rcases List.mem_cons.mp ((h x).mp (List.mem_cons_self ..)) with e | e
      · exact e
      · rcases List.mem_cons.mp ((h y).mpr (List.mem_cons_self ..)) with e2 | e2
        · exact e2.symm
        · exact (asy _ _ (p1.1 y e2) (p2.1 x e)).elim
    subst e
    rw [asc_ext asy p1.2 p2.2 fun a => ?_]
    constructor
    · intro ha
      rcases List.mem_cons.mp ((h a).mp (List.mem_cons_of_mem _ ha)) with e | e
      · subst e; exact (asy _ _ (p1.1 a ha) (p1.1 a ha)).elim
      · exact e
    · intro ha
      rcases List.mem_cons.mp ((h a).mpr (List.mem_cons_of_mem _ ha)) with e | e
      · subst e; exact (asy _ _ (p2.1 a ha) (p2.1 a ha)).elim
      · exact e
theorem asc_extI {xs ys : List Int} (h1 : xs.Pairwise (· < ·)) (h2 : ys.Pairwise (· < ·)) (h : ∀ a, a ∈ xs ↔ a ∈ ys) : xs = ys := asc_ext (fun a b h h' => by omega) h1 h2 h
def ltP (a b : Int × Int) : Prop := a.1 < b.1 ∨ (a.1 = b.1 ∧ a.2 < b.2)
theorem asc_extP {xs ys : List (Int × Int)} (h1 : xs.Pairwise ltP) (h2 : ys.Pairwise ltP) (h : ∀ a, a ∈ xs ↔ a ∈ ys) : xs = ys := asc_ext (fun a b h h' => by unfold ltP at *; omega) h1 h2 h
theorem pw_flat {α β : Type} {r : β → β → Prop} {f : α → List β} : ∀ {xs : List α}, (∀ a ∈ xs, (f a).Pairwise r) → xs.Pairwise (fun a b => ∀ x ∈ f a, ∀ y ∈ f b, r x y) → (xs.flatMap f).Pairwise r
  | [], _, _ => .nil
  | a :: xs, h1, h2 => by
    have pc := List.pairwise_cons.mp h2
    rw [List.flatMap_cons, List.pairwise_append]
    refine ⟨h1 a (List.mem_cons_self ..), pw_flat (fun b hb => h1 b (List.mem_cons_of_mem _ hb)) pc.2, fun x hx y hy => ?_⟩
    obtain ⟨b, hb, hyb⟩ := List.mem_flatMap.mp hy
    exact pc.1 b hb x hx y hyb
theorem pw_imp {α : Type} {r q : α → α → Prop} : ∀ {xs : List α}, xs.Pairwise r → (∀ a ∈ xs, ∀ b ∈ xs, r a b → q a b) → xs.Pairwise q
  | [], _, _ => .nil
  | x :: xs, h, k => by
    have pc := List.pairwise_cons.mp h
    exact List.pairwise_cons.mpr ⟨fun y hy => k x (List.mem_cons_self ..) y (List.mem_cons_of_mem _ hy) (pc.1 y hy), pw_imp pc.2 fun a ha b hb => k a (List.mem_cons_of_mem _ ha) b (List.mem_cons_of_mem _ hb)⟩
theorem pw_and {α : Type} {r q : α → α → Prop} : ∀ {xs : List α}, xs.Pairwise r → xs.Pairwise q → xs.Pairwise (fun a b => r a b ∧ q a b)
  | [], _, _ => .nil
  | x :: xs, h, k => by
    have p1 := List.pairwise_cons.mp h
    have p2 := List.pairwise_cons.mp k
    exact List.pairwise_cons.mpr ⟨fun y hy => ⟨p1.1 y hy, p2.1 y hy⟩, pw_and p1.2 p2.2⟩
theorem leP_mi {a b : Int × Int} : leP a b = true ↔ (a.1 < b.1 ∨ (a.1 = b.1 ∧ a.2 ≤ b.2)) := by unfold leP; exact decide_eq_true_iff
theorem sortP_lt {xs : List (Int × Int)} (h : xs.Nodup) : (sortP xs).Pairwise ltP := by
  have h1 : (sortP xs).Pairwise (fun a b => leP a b = true) := List.pairwise_mergeSort (le := leP) (fun a b c h1 h2 => by rw [leP_mi] at *; omega) (fun a b => by rw [Bool.or_eq_true, leP_mi, leP_mi]; omega) xs
  have h2 : (sortP xs).Nodup := (List.mergeSort_perm xs leP).nodup_iff.mpr h
  exact List.Pairwise.imp (fun {a b} z => by
    have z1 := leP_mi.mp z.1
    have z2 : a ≠ b := z.2
    unfold ltP
    by_cases e : a.1 = b.1
    · by_cases e2 : a.2 = b.2
      · exact absurd (Prod.ext e e2) z2
      · omega
    · omega) (pw_and h1 h2)
theorem nb_mem {ls : List (Int × Int)} (hl : ∀ p ∈ ls, p.1 < p.2) {p q : Int} : q ∈ nbOf ls p ↔ ((p, q) ∈ ls ∨ (q, p) ∈ ls) := by
  unfold nbOf
  rw [List.mem_flatMap]
  constructor
  · rintro ⟨l, h1, h2⟩
    by_cases c1 : l.1 = p
    · rw [if_pos c1, List.mem_singleton] at h2
      exact .inl (by rw [show (p, q) = l from Prod.ext c1.symm h2]; exact h1)
    · rw [if_neg c1] at h2
      by_cases c2 : l.2 = p
      · rw [if_pos c2, List.mem_singleton] at h2
        exact .inr (by rw [show (q, p) = l from Prod.ext h2 c2.symm]; exact h1)
      · rw [if_neg c2] at h2; exact absurd h2 List.not_mem_nil
  · rintro (h | h)
    · exact ⟨_, h, by rw [if_pos rfl]; exact List.mem_singleton.mpr rfl⟩
    · have := hl _ h
      exact ⟨_, h, by rw [if_neg (by show ¬ q = p; simp only at this; omega), if_pos rfl]; exact List.mem_singleton.mpr rfl⟩
theorem nb_asc {ls : List (Int × Int)} (hl : ∀ p ∈ ls, p.1 < p.2) (hs : ls.Pairwise ltP) (p : Int) : (nbOf ls p).Pairwise (· < ·) := by
  unfold nbOf
  refine pw_flat (fun a _ => ?_) (pw_imp hs fun a ha b hb hab x hx y hy => ?_)
  · by_cases c1 : a.1 = p
    · rw [if_pos c1]; exact List.pairwise_singleton ..
    · rw [if_neg c1]
      by_cases c2 : a.2 = p
      · rw [if_pos c2]; exact List.pairwise_singleton ..
      · rw [if_neg c2]; exact .nil
  · have a1 := hl a ha
    have b1 := hl b hb
    unfold ltP at hab
    by_cases c1 : a.1 = p <;> by_cases c2 : a.2 = p <;> by_cases c3 : b.1 = p <;> by_cases c4 : b.2 = p <;> simp [c1, c2, c3, c4] at hx hy <;> omega
theorem LanesG.map {n : Int} {ls : List (Int × Int)} (h : LanesG n ls) : ∀ p ∈ ls.map nrm, 0 ≤ p.1 ∧ p.1 < p.2 ∧ p.2 < n := fun p hp => by
  obtain ⟨q, hq, rfl⟩ := List.mem_map.mp hp
  exact h.1 q hq
/-- the neighbours that a chart tells -/
theorem nb_spec {n : Int} {ls : List (Int × Int)} (h : LanesG n ls) (p : Int) : (nbOf (sortP (ls.map nrm)) p).Pairwise (· < ·) ∧ ∀ q, q ∈ nbOf (sortP (ls.map nrm)) p ↔ ((p, q) ∈ ls.map nrm ∨ (q, p) ∈ ls.map nrm) := by
  have hl : ∀ p ∈ sortP (ls.map nrm), p.1 < p.2 := fun p hp => (h.map p (sortP_mem.mp hp)).2.1
  exact ⟨nb_asc hl (sortP_lt h.2.1) p, fun q => by rw [nb_mem hl, sortP_mem, sortP_mem]⟩
theorem sub_lanes {n : Int} {ls ks : List (Int × Int)} (h : LanesU n ls) (s : ks.Sublist ls) : LanesU n ks := ⟨fun p hp => h.1 p (s.subset hp), s.nodup h.2.1, Nat.le_trans s.length_le h.2.2⟩
theorem filt_mem {f : Int → Bool} {n x : Int} : x ∈ (rng 0 n).flatMap (fun x => if f x = true then [x] else []) ↔ (0 ≤ x ∧ x < n) ∧ f x = true := by
  rw [List.mem_flatMap]
  constructor
  · rintro ⟨y, h1, h2⟩
    by_cases c : f y = true
    · rw [if_pos c, List.mem_singleton] at h2; subst h2; exact ⟨mem_rng.mp h1, c⟩
    · rw [if_neg c] at h2; exact absurd h2 List.not_mem_nil
  · rintro ⟨h1, h2⟩
    exact ⟨x, mem_rng.mpr h1, by rw [if_pos h2]; exact List.mem_singleton.mpr rfl⟩
theorem filt_lt (f : Int → Bool) (n : Int) : ((rng 0 n).flatMap (fun x => if f x = true then [x] else [])).Pairwise (· < ·) :=
  (pairwise_flat (r := (· < ·)) (h := fun x : Int => if f x = true then [x] else []) (fun x => by by_cases h : f x = true <;> simp [h]) (rng_lt 0 n)).1
theorem sortI_mem {xs : List Int} {a : Int} : a ∈ sortI xs ↔ a ∈ xs := (List.mergeSort_perm xs _).mem_iff
theorem sortI_lt {xs : List Int} (h : xs.Nodup) : (sortI xs).Pairwise (· < ·) := by
  have h1 : (sortI xs).Pairwise (fun a b => decide (a ≤ b) = true) := List.pairwise_mergeSort (le := fun a b : Int => decide (a ≤ b)) (fun a b c h1 h2 => by simp at *; omega) (fun a b => by simp; omega) xs
  have h2 : (sortI xs).Nodup := (List.mergeSort_perm xs _).nodup_iff.mpr h
  exact List.Pairwise.imp (fun {a b} z => by
    have z1 := of_decide_eq_true z.1
    have z2 : a ≠ b := z.2
    omega) (pw_and h1 h2)

theorem init_ok {d t hs : List Int} {ls : List (Int × Int)} (hd : DeepOk d) (hl : LanesG d.length ls) (ht : TideOk t) (hh : HarbG d.length hs) : m_Chart_init d ls t hs = some (chOf d ls t hs) := by
  simp only [m_Chart_init]
  refine bd (depths_ok_0 hd) (iff' rfl ?_)
  refine bd (lanes_ok_0 hl) (iff' rfl ?_)
  refine bd (tide_ok_0 ht) (iff' rfl ?_)
  refine bd (harb_ok_0 hh) (iff' rfl ?_)
  refine bd (ordered_ok_0 hl.2.2) ?_
  exact bd (joined_of hd.2.1 hl) rfl
theorem chart_ok {s : SeaT} (h : SeaOk s) : m_l_chart s = some (chOf s.1 s.2.1 s.2.2.1 s.2.2.2) := by
  simp only [m_l_chart]
  exact bd (init_ok h.1 h.2.1.g h.2.2.1 (h.2.2.2.g h.1.2.1)) rfl

def gB (xs : List Bool) (p : Int) : Bool := xs[p.toNat]?.getD false
def gO (xs : List (Option Int)) (p : Int) : Option Int := xs[p.toNat]?.getD none
theorem gB_at {xs : List Bool} {p : Int} (h0 : 0 ≤ p) (h1 : p < xs.length) : at_ xs p = some (gB xs p) := at_get h0 h1
theorem gO_at {xs : List (Option Int)} {p : Int} (h0 : 0 ≤ p) (h1 : p < xs.length) : at_ xs p = some (gO xs p) := at_get h0 h1
theorem forR_any {α : Type} {f : Unit → α → Option (Bool ⊕ Unit)} (g : α → Bool) : ∀ {xs : List α}, (∀ x ∈ xs, f () x = some (if g x = true then .inl true else .inr ())) → forR f () xs = some (if xs.any g = true then .inl true else .inr ())
  | [], _ => rfl
  | x :: xs, h => by
    have hx := h x (List.mem_cons_self ..)
    by_cases c : g x = true
    · rw [if_pos c] at hx
      rw [List.any_cons, c, Bool.true_or, if_pos rfl]
      show (f () x).bind _ = _
      rw [hx]; rfl
    · rw [if_neg c] at hx
      rw [forR_step hx, List.any_cons, show g x = false from bf c, Bool.false_or]
      exact forR_any g fun y hy => h y (List.mem_cons_of_mem _ hy)
theorem forN_par {α σ : Type} {f g : σ → α → Option σ} (P : σ → Prop) : ∀ {xs : List α} {s : σ}, P s → (∀ s x, x ∈ xs → P s → ∃ s', f s x = some s' ∧ g s x = some s' ∧ P s') → ∃ e, forN f s xs = some e ∧ forN g s xs = some e ∧ P e
  | [], s, h0, _ => ⟨s, rfl, rfl, h0⟩
  | x :: xs, s, h0, h => by
    obtain ⟨s', e1, e2, p⟩ := h s x (List.mem_cons_self ..) h0
    obtain ⟨e, h1, h2, h3⟩ := forN_par (f := f) (g := g) P (xs := xs) p fun s y hy => h s y (List.mem_cons_of_mem _ hy)
    exact ⟨e, by rw [forN_cons, e1]; exact h1, by rw [forN_cons, e2]; exact h2, h3⟩

/-! ### rings -/
abbrev CrT := Int × Int × Int × Int × Int
def CraftOk (c : CrT) : Prop := 0 ≤ c.1 ∧ c.1 ≤ 99 ∧ 0 ≤ c.2.1 ∧ c.2.1 ≤ c.2.2.1 ∧ c.2.2.1 ≤ 3 ∧ 0 ≤ c.2.2.2.1 ∧ c.2.2.2.1 ≤ 8 ∧ 0 ≤ c.2.2.2.2 ∧ c.2.2.2.2 ≤ c.2.2.2.1
theorem ship_ok {c : CrT} (h : CraftOk c) : m_l_ship c = some c := by
  obtain ⟨h1, h2, h3, h4, h5, h6, h7, h8, h9⟩ := h
  unfold m_l_ship m_Ship_init
  refine bd (iff' (by simp; omega) (iff' (by simp; omega) (iff' (by simp; omega) ?_))) rfl
  refine bd (x := some c.2.2.2.2) (iff' rfl rfl) (bd rfl ?_)
  exact iff' (by simp; omega) rfl
theorem sortI_len (xs : List Int) : (sortI xs).length = xs.length := (List.mergeSort_perm xs _).length_eq
theorem nd_len {xs : List Int} {n : Nat} (h : xs.Nodup) (hb : ∀ x ∈ xs, 0 ≤ x ∧ x < (n : Int)) : xs.length ≤ n := by
  rw [← sortI_len]
  exact lt_len (sortI_lt h) fun x hx => hb x (sortI_mem.mp hx)
def WOk (n : Nat) (W : List Bool) : Prop := W.length = n
/-- the places that one lane more reaches -/
def ringN (s : SeaT) (W : List Bool) (ring : List Int) : List Int := (rng 0 (s.1.length : Int)).flatMap fun p => if (gB W p && (nbOf (sortP (s.2.1.map nrm)) p).any (fun q => ring.contains q)) = true then [p] else []
section
variable {s : SeaT} (hs : SeaOk s)
include hs
theorem nb_rng {p q : Int} (h : q ∈ nbOf (sortP (s.2.1.map nrm)) p) : 0 ≤ q ∧ q < s.1.length := by
  rcases ((nb_spec hs.2.1.g p).2 q).mp h with h | h
  · have := hs.2.1.g.map _ h; simp only at this; omega
  · have := hs.2.1.g.map _ h; simp only at this; omega
theorem nb_sym {p q : Int} (h : q ∈ nbOf (sortP (s.2.1.map nrm)) p) : p ∈ nbOf (sortP (s.2.1.map nrm)) q := by
  rcases ((nb_spec hs.2.1.g p).2 q).mp h with h | h
  · exact ((nb_spec hs.2.1.g q).2 p).mpr (.inr h)
  · exact ((nb_spec hs.2.1.g q).2 p).mpr (.inl h)
theorem nb_is {p : Int} (h0 : 0 ≤ p) (h1 : p < s.1.length) : m_Chart_neighbours (chOf s.1 s.2.1 s.2.2.1 s.2.2.2) p = some (nbOf (sortP (s.2.1.map nrm)) p) := by
  unfold m_Chart_neighbours
  refine bd (at_int h0 ?_) rfl
  show (rowsOf s.1.length (sortP (s.2.1.map nrm)))[p.toNat]? = _
  rw [rowsOf_at (by omega), Int.toNat_of_nonneg h0]
theorem ring_prog {W : List Bool} (hw : W.length = s.1.length) {ring : List Int} (hr : ∀ x ∈ ring, 0 ≤ x ∧ x < s.1.length) : m_next_ring (chOf s.1 s.2.1 s.2.2.1 s.2.2.2) W ring = some (ringN s W ring) := by
  have dl := hs.1.2.1
  unfold m_next_ring
  obtain ⟨S, eS, S1, S2⟩ := forN_ind (f := m_next_ring_b1 (chOf s.1 s.2.1 s.2.2.1 s.2.2.2) W) (xs := ring) (s0 := ([] : List Int)) (fun pre S => S.Nodup ∧ ∀ o, o ∈ S ↔ ∃ p ∈ pre, o ∈ nbOf (sortP (s.2.1.map nrm)) p ∧ gB W o = true) ⟨.nil, fun o => ⟨fun z => absurd z List.not_mem_nil, fun ⟨p, hp, _⟩ => absurd hp List.not_mem_nil⟩⟩ (fun pre x suf S e hp => by
    obtain ⟨S1, S2⟩ := hp
    have hx := hr x (mem_mid e)
    unfold m_next_ring_b1
    obtain ⟨T, eT, T1, T2⟩ := forN_ind (f := m_next_ring_b2 W) (xs := nbOf (sortP (s.2.1.map nrm)) x) (s0 := S) (fun pr T => T.Nodup ∧ ∀ o, o ∈ T ↔ o ∈ S ∨ (o ∈ pr ∧ gB W o = true)) ⟨S1, fun o => ⟨.inl, fun z => z.elim id fun z => absurd z.1 List.not_mem_nil⟩⟩ (fun pr y sf T e' hp' => by
      obtain ⟨T1, T2⟩ := hp'
      have hy := nb_rng hs (mem_mid e')
      have Tl : T.length ≤ 12 := Nat.le_trans (nd_len T1 (n := s.1.length) fun o ho => by
        rcases (T2 o).mp ho with z | z
        · obtain ⟨p, hp, z, _⟩ := (S2 o).mp z; exact nb_rng hs z
        · exact nb_rng hs (mem_pre e' z.1)) dl
      unfold m_next_ring_b2
      by_cases c : gB W y = true
      · refine ⟨if T.contains y = true then T else T ++ [y], bd (bd (gB_at hy.1 (by omega)) (ift c (bd (if_pos (by omega)) rfl))) rfl, ?_, fun o => ?_⟩
        · by_cases cm : y ∈ T
          · rw [if_pos (contains_true cm)]; exact T1
          · rw [if_neg (by rw [contains_false cm]; exact Bool.false_ne_true), List.nodup_append]
            exact ⟨T1, List.nodup_cons.mpr ⟨List.not_mem_nil, .nil⟩, fun a ha b hb e => cm (by rw [List.mem_singleton] at hb; subst hb; subst e; exact ha)⟩
        · have key : (o ∈ if T.contains y = true then T else T ++ [y]) ↔ o ∈ T ∨ o = y := by
            by_cases cm : y ∈ T
            · rw [if_pos (contains_true cm)]
              exact ⟨.inl, fun z => z.elim id fun z => by subst z; exact cm⟩
            · rw [if_neg (by rw [contains_false cm]; exact Bool.false_ne_true), List.mem_append, List.mem_singleton]
          rw [key, T2, List.mem_append, List.mem_singleton]
          constructor
          · rintro ((z | z) | z)
            · exact .inl z
            · exact .inr ⟨.inl z.1, z.2⟩
            · exact .inr ⟨.inr z, by subst z; exact c⟩
          · rintro (z | ⟨z | z, w⟩)
            · exact .inl (.inl z)
            · exact .inl (.inr ⟨z, w⟩)
            · exact .inr z
      · refine ⟨T, bd (bd (gB_at hy.1 (by omega)) (iff' (bf c) rfl)) rfl, T1, fun o => ?_⟩
        rw [T2, List.mem_append, List.mem_singleton]
        constructor
        · rintro (z | z)
          · exact .inl z
          · exact .inr ⟨.inl z.1, z.2⟩
        · rintro (z | ⟨z | z, w⟩)
          · exact .inl z
          · exact .inr ⟨z, w⟩
          · subst z; exact absurd w c)
    refine ⟨T, bd (nb_is hs hx.1 hx.2) (bd eT rfl), T1, fun o => ?_⟩
    rw [T2, S2]
    constructor
    · rintro (⟨p, hp, z⟩ | ⟨z, w⟩)
      · exact ⟨p, List.mem_append_left _ hp, z⟩
      · exact ⟨x, List.mem_append_right _ (List.mem_singleton.mpr rfl), z, w⟩
    · rintro ⟨p, hp, z, w⟩
      rcases List.mem_append.mp hp with hp | hp
      · exact .inl ⟨p, hp, z, w⟩
      · rw [List.mem_singleton] at hp; subst hp; exact .inr ⟨z, w⟩)
  refine bd eS ?_
  have Sl : S.length ≤ 12 := Nat.le_trans (nd_len S1 (n := s.1.length) fun o ho => by
    obtain ⟨p, hp, z, _⟩ := (S2 o).mp ho; exact nb_rng hs z) dl
  refine bd (guard_ok (by rw [decide_eq_true (show S.length < 64 by omega), decide_eq_true S1]; rfl)) (congrArg some ?_)
  refine asc_extI (sortI_lt S1) (filt_lt _ _) fun a => ?_
  unfold ringN
  rw [sortI_mem, S2, filt_mem, Bool.and_eq_true, List.any_eq_true]
  constructor
  · rintro ⟨p, hp, z, w⟩
    exact ⟨nb_rng hs z, w, p, nb_sym hs z, contains_true hp⟩
  · rintro ⟨_, w, q, z, hq⟩
    exact ⟨q, List.contains_iff_mem.mp hq, nb_sym hs z, w⟩
theorem touch_law (here : List Int) (x : Int) : m_l_touches s here x = some ((nbOf (sortP (s.2.1.map nrm)) x).any (fun q => here.contains q)) := by
  unfold m_l_touches
  have hlm : ∀ p ∈ s.2.1, p.1 < p.2 := fun p hp => (hs.2.1.1 p hp).2.1
  have em := map_nrm hlm
  have z := forR_any (f := m_l_touches_b1 here x) (xs := s.2.1) (fun l => (decide (l.1 = x) && here.contains l.2) || (decide (l.2 = x) && here.contains l.1)) (fun l hm => by
    unfold m_l_touches_b1
    cases (decide (l.1 = x) && here.contains l.2)
    · cases (decide (l.2 = x) && here.contains l.1) <;> rfl
    · rfl)
  refine bd z ?_
  have e : s.2.1.any (fun l => (decide (l.1 = x) && here.contains l.2) || (decide (l.2 = x) && here.contains l.1)) = (nbOf (sortP (s.2.1.map nrm)) x).any (fun q => here.contains q) := by
    rw [Bool.eq_iff_iff, List.any_eq_true, List.any_eq_true]
    constructor
    · rintro ⟨l, hm, h⟩
      rw [Bool.or_eq_true, Bool.and_eq_true, Bool.and_eq_true, decide_eq_true_eq, decide_eq_true_eq] at h
      rcases h with ⟨rfl, h⟩ | ⟨rfl, h⟩
      · exact ⟨l.2, ((nb_spec hs.2.1.g _).2 _).mpr (.inl (by rw [em]; exact hm)), h⟩
      · exact ⟨l.1, ((nb_spec hs.2.1.g _).2 _).mpr (.inr (by rw [em]; exact hm)), h⟩
    · rintro ⟨q, hq, h⟩
      rcases ((nb_spec hs.2.1.g _).2 _).mp hq with hq | hq
      · rw [em] at hq; exact ⟨_, hq, by simp only [decide_true, Bool.true_and, h, Bool.true_or]⟩
      · rw [em] at hq; exact ⟨_, hq, by simp only [decide_true, Bool.true_and, h, Bool.or_true]⟩
  rw [e]
  cases (nbOf (sortP (s.2.1.map nrm)) x).any (fun q => here.contains q) <;> rfl
def wetC (s : SeaT) (c : CrT) (w : Int) : List Bool := (rng 0 (s.1.length : Int)).map fun p => decide (c.1 ≤ s.1[p.toNat]?.getD 0 + s.2.2.1[(w % (s.2.2.1.length : Int)).toNat]?.getD 0)
omit hs in
theorem wetC_len (c : CrT) (w : Int) : (wetC s c w).length = s.1.length := by unfold wetC; rw [List.length_map, rng_length]; omega
theorem lanes_ok {c : CrT} (hc : CraftOk c) {w st : Int} (st0 : 0 ≤ st) (st1 : st < s.1.length) : ∃ R, m_least_lanes (chOf s.1 s.2.1 s.2.2.1 s.2.2.2) c w st = some R ∧ m_l_lanes s c w st = some R ∧ R.length = s.1.length := by
  obtain ⟨_, _, h3, h4, h5, _⟩ := hc
  have dl := hs.1.2.1
  have tl := hs.2.2.1.1
  have m0 := Int.emod_nonneg w (show (s.2.2.1.length : Int) ≠ 0 by omega)
  have m1 := Int.emod_lt_of_pos w (show 0 < (s.2.2.1.length : Int) by omega)
  have wl := wetC_len (s := s) c w
  -- what is wet
  have w1 : forN (m_least_lanes_b1 (chOf s.1 s.2.1 s.2.2.1 s.2.2.2) c w) ([] : List Bool) (rng 0 (s.1.length : Int)) = some (wetC s c w) := by
    refine forN_thru (fun pre => pre.map fun (p : Int) => decide (c.1 ≤ s.1[p.toNat]?.getD 0 + s.2.2.1[(w % (s.2.2.1.length : Int)).toNat]?.getD 0)) rfl fun pre x suf e => ?_
    have hx := mem_rng.mp (mem_mid e)
    have hp : pre.length ≤ 12 := by have := congrArg List.length e; rw [List.length_append, rng_length] at this; omega
    unfold m_least_lanes_b1 m_Chart_water
    refine bd (bd (at_get (xs := s.1) (d := 0) hx.1 hx.2) (bd (mod_ok (i := w) (j := (s.2.2.1.length : Int)) (by omega)) (bd (at_get (xs := s.2.2.1) (d := 0) m0 m1) rfl))) ?_
    exact bd (app_ok (xs := pre.map _) (lt_big (by rw [List.length_map]; omega))) (by rw [List.map_append]; rfl)
  have w2 : forN (m_l_lanes_b1 s c w) ([] : List Bool) (rng 0 (s.1.length : Int)) = some (wetC s c w) := by
    refine forN_thru (fun pre => pre.map fun (p : Int) => decide (c.1 ≤ s.1[p.toNat]?.getD 0 + s.2.2.1[(w % (s.2.2.1.length : Int)).toNat]?.getD 0)) rfl fun pre x suf e => ?_
    have hx := mem_rng.mp (mem_mid e)
    have hp : pre.length ≤ 12 := by have := congrArg List.length e; rw [List.length_append, rng_length] at this; omega
    unfold m_l_lanes_b1 m_l_water
    refine bd (bd (at_get (xs := s.1) (d := 0) hx.1 hx.2) (bd (mod_ok (i := w) (j := (s.2.2.1.length : Int)) (by omega)) (bd (at_get (xs := s.2.2.1) (d := 0) m0 m1) rfl))) ?_
    exact bd (app_ok (xs := pre.map _) (lt_big (by rw [List.length_map]; omega))) (by rw [List.map_append]; rfl)
  have n2 : forN m_l_lanes_b2 ([] : List (Option Int)) (rng 0 (s.1.length : Int)) = some (List.replicate s.1.length none) := by
    have z := forN_thru (f := m_l_lanes_b2) (xs := rng 0 (s.1.length : Int)) (s0 := ([] : List (Option Int))) (fun pre => List.replicate pre.length none) rfl (fun pre x suf e => by
      have hp : pre.length ≤ 12 := by have := congrArg List.length e; rw [List.length_append, rng_length] at this; omega
      unfold m_l_lanes_b2
      refine bd (app_ok (lt_big (by rw [List.length_replicate]; omega))) ?_
      rw [List.length_append]
      show some (List.replicate pre.length none ++ [none]) = some (List.replicate (pre.length + 1) none)
      rw [List.replicate_succ'])
    rw [z, rng_length, show ((s.1.length : Int) - 0).toNat = s.1.length by omega]
  have L0 : ∃ L : List (Option Int), (if decide (c.2.1 = (0 : Int)) = true then ((setAt (List.replicate s.1.length (none : Option Int)) st (some (0 : Int))).bind fun x63 => some x63) else some (List.replicate s.1.length none)) = some L ∧ L.length = s.1.length := by
    by_cases k : c.2.1 = 0
    · exact ⟨_, ift (decide_eq_true k) (bd (setAt_ok st0 (by rw [List.length_replicate]; exact st1)) rfl), by rw [List.length_set, List.length_replicate]⟩
    · exact ⟨_, iff' (decide_eq_false k) rfl, List.length_replicate⟩
  obtain ⟨L, eL, lL⟩ := L0
  have R0 : ∃ r : List Int, ((at_ (wetC s c w) st).bind fun x73 => if x73 = true then some [st] else some ([] : List Int)) = some r ∧ ∀ x ∈ r, 0 ≤ x ∧ x < s.1.length := by
    by_cases k : gB (wetC s c w) st = true
    · exact ⟨[st], bd (gB_at st0 (by omega)) (ift k rfl), fun x hx => by rw [List.mem_singleton] at hx; omega⟩
    · exact ⟨[], bd (gB_at st0 (by omega)) (iff' (bf k) rfl), fun x hx => absurd hx List.not_mem_nil⟩
  obtain ⟨r, er, hr⟩ := R0
  obtain ⟨E, e1, e2, e3, _⟩ := forN_par (f := m_least_lanes_b2 (chOf s.1 s.2.1 s.2.2.1 s.2.2.2) c (wetC s c w)) (g := m_l_lanes_b3 s c (s.1.length : Int) (wetC s c w)) (xs := rng 1 (c.2.2.1 + 1)) (s := (L, r)) (fun t => t.1.length = s.1.length ∧ ∀ x ∈ t.2, 0 ≤ x ∧ x < s.1.length) ⟨lL, hr⟩ (fun t x _ ht => by
    obtain ⟨t1, t2⟩ := ht
    have hN : ∀ y ∈ ringN s (wetC s c w) t.2, 0 ≤ y ∧ y < s.1.length := fun y hy => (filt_mem.mp hy).1
    obtain ⟨T, eT, lT⟩ := forN_inv (f := m_least_lanes_b3 c x) (fun T => T.length = s.1.length) (xs := ringN s (wetC s c w) t.2) (s := t.1) t1 (fun T y hy lT => by
      have hy := hN y hy
      unfold m_least_lanes_b3
      have cb : ∃ b, (if decide (c.2.1 ≤ x) = true then (at_ T y).bind fun x136 => some x136.isNone else some false) = some b := by
        by_cases k : c.2.1 ≤ x
        · exact ⟨_, ift (decide_eq_true k) (bd (gO_at hy.1 (by omega)) rfl)⟩
        · exact ⟨_, iff' (decide_eq_false k) rfl⟩
      obtain ⟨b, eb⟩ := cb
      cases b with
      | true => exact ⟨_, bd (bd eb (ift rfl (bd (setAt_ok hy.1 (by omega)) rfl))) rfl, by rw [List.length_set]; exact lT⟩
      | false => exact ⟨_, bd (bd eb (iff' rfl rfl)) rfl, lT⟩)
    refine ⟨(T, ringN s (wetC s c w) t.2), ?_, ?_, lT, hN⟩
    · unfold m_least_lanes_b2
      exact bd (ring_prog hs wl t2) (bd eT rfl)
    · unfold m_l_lanes_b3
      refine bd (rngO_ok (lo := 0) (hi := (s.1.length : Int)) (by decide) (by decide) (by omega) (by omega)) ?_
      have z2 := forN_flat (f := m_l_lanes_b4 s (wetC s c w) t) (xs := rng 0 (s.1.length : Int)) (acc := ([] : List Int)) (fun p => if (gB (wetC s c w) p && (nbOf (sortP (s.2.1.map nrm)) p).any (fun q => t.2.contains q)) = true then [p] else []) (fun x => by split <;> simp) (le_big (by rw [rng_length]; show 0 + _ ≤ _; omega)) (fun acc p hp hb => by
        have hp := mem_rng.mp hp
        unfold m_l_lanes_b4
        refine bd (x := (gB (wetC s c w) p && (nbOf (sortP (s.2.1.map nrm)) p).any (fun q => t.2.contains q))) ?_ ?_
        · refine bd (gB_at hp.1 (by omega)) ?_
          by_cases k : gB (wetC s c w) p = true
          · rw [k]; exact ift rfl (bd (touch_law hs t.2 p) rfl)
          · rw [show gB (wetC s c w) p = false from bf k]; rfl
        · by_cases k : (gB (wetC s c w) p && (nbOf (sortP (s.2.1.map nrm)) p).any (fun q => t.2.contains q)) = true
          · rw [if_pos k, if_pos k, app_ok hb]; rfl
          · rw [if_neg k, if_neg k, List.append_nil])
      rw [List.nil_append] at z2
      exact bd z2 (bd (show forN (m_l_lanes_b5 c x) t.1 (ringN s (wetC s c w) t.2) = some T from eT) rfl))
  refine ⟨E.1, ?_, ?_, e3⟩
  · unfold m_least_lanes
    refine bd (rngO_ok (lo := 0) (hi := (s.1.length : Int)) (by decide) (by decide) (by omega) (by omega)) ?_
    refine bd w1 ?_
    refine bd (repL_one (n := s.1.length) (none : Option Int) (by omega)) ?_
    refine bd eL (bd er ?_)
    exact bd (rngO_ok (lo := 1) (hi := c.2.2.1 + 1) (by decide) (by decide) (by omega) (by omega)) (bd e1 rfl)
  · unfold m_l_lanes
    refine ltE ?_
    refine bd (rngO_ok (lo := 0) (hi := (s.1.length : Int)) (by decide) (by decide) (by omega) (by omega)) ?_
    refine bd w2 ?_
    refine bd (rngO_ok (lo := 0) (hi := (s.1.length : Int)) (by decide) (by decide) (by omega) (by omega)) ?_
    refine bd n2 ?_
    refine bd eL (bd er ?_)
    exact bd (rngO_ok (lo := 1) (hi := c.2.2.1 + 1) (by decide) (by decide) (by omega) (by omega)) (bd e2 rfl)
end

/-! ### the seas and ships of these laws -/
theorem flowsS_ok {h : List Int} (hh : Hd h) {s : SeaT} (hs : SeaOk s) : ∃ s' h', m_l_flows h s = some (s', h') ∧ SeaOk s' ∧ Hd h' ∧ s'.1 = s.1 := by
  have ht := hs.2.2.1
  have t0 := ht.1
  have t1 := ht.2.1
  unfold m_l_flows
  obtain ⟨a, h1, e1, a0, a1, hh1⟩ := pick_ok hh (n := (s.2.2.1.length : Int)) (by omega) (by omega)
  refine bdQ e1 ?_
  have l1 := cut_from (xs := s.2.2.1) (i := a) a0 (by omega)
  have l2 := cut_to (xs := s.2.2.1) (i := a) a0 (by omega)
  refine bdQ (cat_ok (xs := cut s.2.2.1 (some a) none) (ys := cut s.2.2.1 none (some a)) (le_big (by omega))) ?_
  have hc : TideOk (cut s.2.2.1 (some a) none ++ cut s.2.2.1 none (some a)) := ⟨by rw [List.length_append]; omega, by rw [List.length_append]; omega, fun x hx => by
    rcases List.mem_append.mp hx with hx | hx
    · exact ht.2.2 x (cut_mem hx)
    · exact ht.2.2 x (cut_mem hx)⟩
  generalize cut s.2.2.1 (some a) none ++ cut s.2.2.1 none (some a) = f at hc
  obtain ⟨b, h2, e2, b0, b1, hh2⟩ := pick_ok hh1 (n := 4) (by decide) (by decide)
  refine bdQ e2 ?_
  have j1 : ∃ r : List Int × List Int, (if decide (b = (2 : Int)) = true then ((lMax f).bind fun x69 => (m_l_pick h2 ((21 : Int) - x69)).bind fun q70 => (forN (m_l_flows_b1 q70) ([] : (List Int)) f).bind fun s74 => some (q70.2, s74)) else (some (h2, f)) : Option (List Int × List Int)) = some r ∧ Hd r.1 ∧ TideOk r.2 := by
    by_cases k : b = 2
    · obtain ⟨m, em⟩ : ∃ m, lMax f = some m := by cases f with
        | nil => have := hc.1; simp at this
        | cons x xs => exact ⟨_, rfl⟩
      obtain ⟨_, m1, m2⟩ := lMax_is em
      have hm := hc.2.2 m m1
      obtain ⟨l, h3, e3, l0, l1, hh3⟩ := pick_ok hh2 (n := 21 - m) (by omega) (by omega)
      have fl := hc.2.1
      have z := forN_thru (f := m_l_flows_b1 (l, h3)) (xs := f) (s0 := ([] : List Int)) (fun pre => pre.map fun x => x + l) rfl (fun pre x suf e => by
        have hp : pre.length ≤ 12 := by have := congrArg List.length e; rw [List.length_append] at this; omega
        unfold m_l_flows_b1
        exact bd (app_ok (xs := pre.map _) (lt_big (by rw [List.length_map]; omega))) (by rw [List.map_append]; rfl))
      refine ⟨(h3, f.map fun x => x + l), ift (decide_eq_true k) (bd em (bd e3 (bd z rfl))), hh3, by rw [List.length_map]; exact hc.1, by rw [List.length_map]; exact hc.2.1, fun x hx => ?_⟩
      obtain ⟨y, hy, rfl⟩ := List.mem_map.mp hx
      have := hc.2.2 y hy
      have := m2 y hy
      omega
    · exact ⟨(h2, f), iff' (decide_eq_false k) rfl, hh2, hc⟩
  obtain ⟨⟨h3, f2⟩, e3, hh3, hf2⟩ := j1
  refine bdQ e3 ?_
  have j2 : ∃ r : List Int × List Int, (if decide (b = (3 : Int)) = true then ((m_l_pick h3 (12 : Int)).bind fun q104 => (rngO 0 ((1 : Int) + q104.1)).bind fun g107 => (forN (m_l_flows_b2) (([] : (List Int)), q104.2) g107).bind fun s109 => some (s109.2, s109.1)) else (some (h3, f2)) : Option (List Int × List Int)) = some r ∧ Hd r.1 ∧ TideOk r.2 := by
    by_cases k : b = 3
    · obtain ⟨c, h4, e4, c0, c1, hh4⟩ := pick_ok hh3 (n := 12) (by decide) (by decide)
      obtain ⟨u, eu, u1, u2, u3⟩ := forN_ind (f := m_l_flows_b2) (xs := rng 0 (1 + c)) (s0 := (([] : List Int), h4)) (fun pr t => Hd t.2 ∧ (∀ y ∈ t.1, 0 ≤ y ∧ y ≤ 20) ∧ t.1.length = pr.length) ⟨hh4, (fun y hy => nomatch hy), rfl⟩ (fun pr y sf t e' hp' => by
        obtain ⟨t1, t2, t3⟩ := hp'
        have kl := congrArg List.length e'
        rw [List.length_append, rng_length] at kl
        unfold m_l_flows_b2
        obtain ⟨z, h5, e7, z0, z1, hh5⟩ := pick_ok t1 (n := 21) (by decide) (by decide)
        refine ⟨_, bd e7 (bd (app_ok (xs := t.1) (lt_big (by omega))) rfl), hh5, ?_, ?_⟩
        · intro p hp
          rcases List.mem_append.mp hp with hp | hp
          · exact t2 p hp
          · rw [List.mem_singleton] at hp; omega
        · show (t.1 ++ [z]).length = _; rw [List.length_append, List.length_append, t3]; rfl)
      rw [rng_length] at u3
      exact ⟨(u.2, u.1), ift (decide_eq_true k) (bd e4 (bd (rngO_ok (lo := 0) (hi := 1 + c) (by decide) (by decide) (by omega) (by omega)) (bd eu rfl))), u1, by show 1 ≤ u.1.length; omega, by show u.1.length ≤ 12; omega, u2⟩
    · exact ⟨(h3, f2), iff' (decide_eq_false k) rfl, hh3, hf2⟩
  obtain ⟨⟨h4, f3⟩, e4, hh4, hf3⟩ := j2
  refine bdQ e4 ?_
  exact ⟨_, _, rfl, ⟨hs.1, hs.2.1, hf3, hs.2.2.2⟩, hh4, rfl⟩

theorem forR_ind {α σ ρ : Type} {f : σ → α → Option (ρ ⊕ σ)} (P : List α → σ → Prop) (Qr : ρ → Prop) {xs : List α} {s0 : σ} (h0 : P [] s0) (h : ∀ pre x suf s, xs = pre ++ x :: suf → P pre s → (∃ r, f s x = some (.inl r) ∧ Qr r) ∨ ∃ s', f s x = some (.inr s') ∧ P (pre ++ [x]) s') :
    (∃ r, forR f s0 xs = some (.inl r) ∧ Qr r) ∨ ∃ s', forR f s0 xs = some (.inr s') ∧ P xs s' := by
  have key : ∀ (suf pre : List α) (s : σ), xs = pre ++ suf → P pre s → (∃ r, forR f s suf = some (.inl r) ∧ Qr r) ∨ ∃ s', forR f s suf = some (.inr s') ∧ P xs s' := by
    intro suf
    induction suf with
    | nil => intro pre s e p; rw [List.append_nil] at e; subst e; exact .inr ⟨s, rfl, p⟩
    | cons x suf ih =>
      intro pre s e p
      rcases h pre x suf s e p with ⟨r, e1, q⟩ | ⟨s', e1, p1⟩
      · refine .inl ⟨r, ?_, q⟩
        show (f s x).bind _ = _
        rw [e1]; rfl
      · rw [forR_step e1]
        exact ih (pre ++ [x]) s' (by rw [e, List.append_assoc]; rfl) p1
  exact key xs [] s0 rfl h0
theorem forR_shift {α σ ρ : Type} {f : σ → Int × α → Option (ρ ⊕ σ)} {g : σ → Int → Option (ρ ⊕ σ)} (I : σ → Prop) : ∀ (suf pre : List α) (s : σ), I s → (∀ s (k : Nat) x, I s → (pre ++ suf)[k]? = some x → ∃ o, f s ((k : Int) + 1, x) = some o ∧ g s (k : Int) = some o ∧ ∀ s', o = .inr s' → I s') → forR f s (enumF ((pre.length : Int) + 1) suf) = forR g s (rng (pre.length : Int) ((pre ++ suf).length : Int))
  | [], pre, s, _, _ => by rw [rng_nil (by rw [List.append_nil]; omega)]; rfl
  | x :: suf, pre, s, hI, h => by
    rw [rng_cons (by rw [List.length_append, List.length_cons]; omega)]
    obtain ⟨o, e1, e2, e3⟩ := h s pre.length x hI (by rw [List.getElem?_append_right (Nat.le_refl _), Nat.sub_self]; rfl)
    show (f s ((pre.length : Int) + 1, x)).bind _ = (g s (pre.length : Int)).bind _
    rw [e1, e2]
    cases o with
    | inl r => rfl
    | inr s' =>
      have e : pre ++ x :: suf = (pre ++ [x]) ++ suf := by rw [List.append_assoc]; rfl
      have el : ((pre ++ [x]).length : Int) = (pre.length : Int) + 1 := by rw [List.length_append]; rfl
      have z := forR_shift (f := f) (g := g) I suf (pre ++ [x]) s' (e3 s' rfl) (fun s k y hs hy => h s k y hs (by rw [e]; exact hy))
      rw [el] at z
      show forR f s' (enumF ((pre.length : Int) + 1 + 1) suf) = forR g s' (rng ((pre.length : Int) + 1) ((pre ++ x :: suf).length : Int))
      rw [e]; exact z
theorem at_last {α : Type} {xs : List α} (h : 1 ≤ xs.length) : ∃ a, at_ xs (-1) = some a ∧ a ∈ xs := by
  have hj : xs.length - 1 < xs.length := by omega
  refine ⟨xs[xs.length - 1], ?_, List.getElem_mem _⟩
  unfold at_ ixN
  rw [if_neg (by decide), if_pos (by omega), Option.bind_some, show ((-1 : Int) + (xs.length : Int)).toNat = xs.length - 1 by omega, List.getElem?_eq_getElem hj]
def goB (R : List (Option Int)) (amt p : Int) : Bool := match gO R p with
  | some y => decide (y ≤ amt)
  | none => false
theorem goB_some {R : List (Option Int)} {amt p y : Int} (h : gO R p = some y) : goB R amt p = decide (y ≤ amt) := by unfold goB; rw [h]
theorem goB_none {R : List (Option Int)} {amt p : Int} (h : gO R p = none) : goB R amt p = false := by unfold goB; rw [h]
def PathOk (n : Nat) (p : List Int) : Prop := 1 ≤ p.length ∧ p.length ≤ 25 ∧ ∀ x ∈ p, 0 ≤ x ∧ x < (n : Int)
def fillV (s : SeaT) (c : CrT) (p a : Int) : Int := if s.2.2.2.contains p = true then c.2.2.2.1 else a
theorem filled_is (s : SeaT) (c : CrT) (p a : Int) : m_l_filled s c p a = some (fillV s c p a) := by
  unfold m_l_filled fillV
  by_cases k : s.2.2.2.contains p = true
  · rw [if_pos k, if_pos k]
  · rw [if_neg k, if_neg k]
section
variable {s : SeaT} (hs : SeaOk s)
include hs
theorem after_is (c : CrT) (p a : Int) : m_fuel_after (chOf s.1 s.2.1 s.2.2.1 s.2.2.2) c p a = some (fillV s c p a) := by
  unfold m_fuel_after
  have eh : (sortI s.2.2.2).contains p = s.2.2.2.contains p := by
    by_cases k : p ∈ s.2.2.2
    · rw [contains_true k, contains_true (sortI_mem.mpr k)]
    · rw [contains_false k, contains_false fun z => k (sortI_mem.mp z)]
  refine bd (show m_Chart_is_harbour (chOf s.1 s.2.1 s.2.2.1 s.2.2.2) p = some (s.2.2.2.contains p) from ?_) ?_
  · unfold m_Chart_is_harbour
    show some ((sortI s.2.2.2).contains p) = _
    rw [eh]
  · unfold fillV
    by_cases k : s.2.2.2.contains p = true
    · rw [if_pos k, if_pos k]
    · rw [if_neg k, if_neg k]
theorem fuel_ok {c : CrT} (hc : CraftOk c) {path : List Int} (hp : PathOk s.1.length path) : ∃ R : Option (List Int), m_fuel_along (chOf s.1 s.2.1 s.2.2.1 s.2.2.2) c path = some R ∧ m_l_fuels s c path = some R ∧ ∀ xs, R = some xs → xs.length ≤ 25 := by
  obtain ⟨hp0, hp1, hp2⟩ := hp
  obtain ⟨p0, ps, rfl⟩ : ∃ p0 ps, path = p0 :: ps := by cases path with
    | nil => simp at hp0
    | cons p0 ps => exact ⟨p0, ps, rfl⟩
  have dl := hs.1.2.1
  have pl : (p0 :: ps).length = ps.length + 1 := rfl
  -- one step
  have step : ∀ (S : List Int) (k : Nat) (x : Int), (1 ≤ S.length ∧ S.length ≤ 100000) → ps[k]? = some x → ∃ o, m_fuel_along_b1 (chOf s.1 s.2.1 s.2.2.1 s.2.2.2) c (p0 :: ps) S ((k : Int) + 1, x) = some o ∧ m_l_fuels_b1 s c (p0 :: ps) S (k : Int) = some o ∧ (o = .inl none ∨ ∃ v, o = .inr (S ++ [v])) := by
    intro S k x hS hx
    have hk : k < ps.length := (List.getElem?_eq_some_iff.mp hx).1
    obtain ⟨pv, epv, gpv⟩ := at_some (xs := p0 :: ps) (i := (k : Int)) (by omega) (by rw [pl]; omega)
    have hpv := hp2 pv (List.mem_of_getElem? gpv)
    have ex : at_ (p0 :: ps) ((k : Int) + 1) = some x := by
      have : ((k : Int) + 1) = ((k + 1 : Nat) : Int) := by omega
      rw [this]; exact at_nat hx
    have hxr := hp2 x (List.mem_cons_of_mem _ (List.mem_of_getElem? hx))
    obtain ⟨R, r1, r2, r3⟩ := lanes_ok hs hc (w := (k : Int)) hpv.1 hpv.2
    obtain ⟨y, ey, _⟩ := at_some (xs := R) hxr.1 (by omega)
    obtain ⟨a, ea, _⟩ := at_last hS.1
    have ek : ((k : Int) + 1 - 1) = (k : Int) := by omega
    have epv' : at_ (p0 :: ps) ((k : Int) + 1 - 1) = some pv := by rw [ek]; exact epv
    have est : m_step_lanes (chOf s.1 s.2.1 s.2.2.1 s.2.2.2) c ((k : Int) + 1 - 1) pv x = some y := by
      rw [ek]; unfold m_step_lanes; exact bd r1 (bd ey rfl)
    have hk0 : (0 : Int) < (k : Int) + 1 := by omega
    cases y with
    | none =>
      refine ⟨.inl none, ?_, ?_, .inl rfl⟩
      · unfold m_fuel_along_b1
        refine ltE ?_
        exact bd (x := .inl none) (ift (decide_eq_true hk0) (bd epv' (bd est (bd (x := true) rfl (ift rfl rfl))))) rfl
      · unfold m_l_fuels_b1
        exact bd epv (bd r2 (bd ex (bd ey (bd (x := true) rfl (ift rfl rfl)))))
    | some l =>
      by_cases ca : a < l
      · refine ⟨.inl none, ?_, ?_, .inl rfl⟩
        · unfold m_fuel_along_b1
          refine ltE ?_
          exact bd (x := .inl none) (ift (decide_eq_true hk0) (bd epv' (bd est (bd (x := true) (iff' rfl (bd ea (bd rfl (congrArg some (decide_eq_true ca))))) (ift rfl rfl))))) rfl
        · unfold m_l_fuels_b1
          exact bd epv (bd r2 (bd ex (bd ey (bd (x := true) (iff' rfl (bd ea (bd rfl (congrArg some (decide_eq_true ca))))) (ift rfl rfl)))))
      · refine ⟨.inr (S ++ [fillV s c x (a - l)]), ?_, ?_, .inr ⟨_, rfl⟩⟩
        · unfold m_fuel_along_b1
          refine ltE ?_
          refine bd (x := .inr (a - l)) (ift (decide_eq_true hk0) (bd epv' (bd est (bd (x := false) (iff' rfl (bd ea (bd rfl (congrArg some (decide_eq_false ca))))) (iff' rfl (bd ea (bd rfl (ltE rfl)))))))) ?_
          exact bd (after_is hs c x (a - l)) (bd (app_ok (xs := S) (lt_big (by omega))) rfl)
        · unfold m_l_fuels_b1
          refine bd epv (bd r2 (bd ex (bd ey (bd (x := false) (iff' rfl (bd ea (bd rfl (congrArg some (decide_eq_false ca))))) (iff' rfl ?_)))))
          exact bd ex (bd ea (bd rfl (bd (filled_is s c x (a - l)) (bd (app_ok (xs := S) (lt_big (by omega))) rfl))))
  have hshift := forR_shift (f := m_fuel_along_b1 (chOf s.1 s.2.1 s.2.2.1 s.2.2.2) c (p0 :: ps)) (g := m_l_fuels_b1 s c (p0 :: ps)) (fun S => True) ps [] [fillV s c p0 c.2.2.2.2]
  -- the law's walk
  have run := forR_ind (f := m_l_fuels_b1 s c (p0 :: ps)) (xs := rng 0 (ps.length : Int)) (s0 := [fillV s c p0 c.2.2.2.2]) (fun pre S => S.length = pre.length + 1) (fun r => r = none) rfl (fun pre x suf S e hS => by
    obtain ⟨g1, _, _, g4⟩ := rng_mid e
    have gx : x = ((pre.length : Nat) : Int) := by omega
    subst gx
    obtain ⟨y, hy⟩ : ∃ y, ps[pre.length]? = some y := ⟨ps[pre.length]'(by omega), List.getElem?_eq_getElem (by omega)⟩
    obtain ⟨o, _, o2, o3⟩ := step S pre.length y ⟨by omega, by omega⟩ hy
    rcases o3 with rfl | ⟨v, rfl⟩
    · exact .inl ⟨none, o2, rfl⟩
    · exact .inr ⟨_, o2, by rw [List.length_append, List.length_append, hS]; rfl⟩)
  have both : ∀ e, forR (m_l_fuels_b1 s c (p0 :: ps)) [fillV s c p0 c.2.2.2.2] (rng 0 (ps.length : Int)) = some e → forR (m_fuel_along_b1 (chOf s.1 s.2.1 s.2.2.1 s.2.2.2) c (p0 :: ps)) [fillV s c p0 c.2.2.2.2] (enumF 1 ps) = some e := fun e he => by
    have z := forR_shift (f := m_fuel_along_b1 (chOf s.1 s.2.1 s.2.2.1 s.2.2.2) c (p0 :: ps)) (g := fun S k => if S.length ≤ 100000 ∧ 1 ≤ S.length then m_l_fuels_b1 s c (p0 :: ps) S k else none) (fun S => True)
    clear z
    -- by the same walk with the lengths kept
    have key : ∀ (suf pre : List Int) (S : List Int), ps = pre ++ suf → S.length = pre.length + 1 → forR (m_fuel_along_b1 (chOf s.1 s.2.1 s.2.2.1 s.2.2.2) c (p0 :: ps)) S (enumF ((pre.length : Int) + 1) suf) = forR (m_l_fuels_b1 s c (p0 :: ps)) S (rng (pre.length : Int) (ps.length : Int)) := by
      intro suf
      induction suf with
      | nil => intro pre S e _; rw [List.append_nil] at e; rw [rng_nil (by rw [e]; omega)]; rfl
      | cons x suf ih =>
        intro pre S e hS
        have el2 : ps.length = pre.length + (suf.length + 1) := by rw [e, List.length_append]; rfl
        rw [rng_cons (by omega)]
        obtain ⟨o, o1, o2, o3⟩ := step S pre.length x ⟨by omega, by omega⟩ (by rw [e, List.getElem?_append_right (Nat.le_refl _), Nat.sub_self]; rfl)
        show (m_fuel_along_b1 _ c (p0 :: ps) S ((pre.length : Int) + 1, x)).bind _ = (m_l_fuels_b1 s c (p0 :: ps) S (pre.length : Int)).bind _
        rw [o1, o2]
        rcases o3 with rfl | ⟨v, rfl⟩
        · rfl
        · have el : ((pre ++ [x]).length : Int) = (pre.length : Int) + 1 := by rw [List.length_append]; rfl
          have z := ih (pre ++ [x]) (S ++ [v]) (by rw [e, List.append_assoc]; rfl) (by rw [List.length_append, List.length_append, hS]; rfl)
          rw [el] at z
          exact z
    have z := key ps [] [fillV s c p0 c.2.2.2.2] rfl rfl
    exact z.trans he
  have first : m_fuel_along_b1 (chOf s.1 s.2.1 s.2.2.1 s.2.2.2) c (p0 :: ps) [] (0, p0) = some (.inr [fillV s c p0 c.2.2.2.2]) := by
    unfold m_fuel_along_b1
    refine ltE ?_
    refine bd (x := (.inr c.2.2.2.2 : Option (List Int) ⊕ Int)) (iff' rfl rfl) ?_
    exact bd (after_is hs c p0 c.2.2.2.2) (bd (app_ok (xs := ([] : List Int)) (lt_big (by decide))) rfl)
  have el : ((p0 :: ps).length : Int) - 1 = (ps.length : Int) := by rw [pl]; omega
  have fin : ∀ (e : Option (List Int) ⊕ List Int) (R : Option (List Int)), forR (m_l_fuels_b1 s c (p0 :: ps)) [fillV s c p0 c.2.2.2.2] (rng 0 (ps.length : Int)) = some e → (orR e fun s24 => some (some s24)) = some R → m_fuel_along (chOf s.1 s.2.1 s.2.2.1 s.2.2.2) c (p0 :: ps) = some R ∧ m_l_fuels s c (p0 :: ps) = some R := fun e R he hR => by
    constructor
    · unfold m_fuel_along
      refine bd (x := e) ?_ hR
      show forR _ [] ((0, p0) :: enumF (0 + 1) ps) = _
      rw [forR_step first]
      exact both e he
    · unfold m_l_fuels
      refine bd (at0 p0 ps) (bd (filled_is s c p0 _) ?_)
      refine bd (show rngO 0 (((p0 :: ps).length : Int) - 1) = some (rng 0 (ps.length : Int)) from ?_) (bd he hR)
      rw [el]; exact rngO_ok (by decide) (by decide) (by omega) (by omega)
  rcases run with ⟨r, e1, rfl⟩ | ⟨S, e1, hS⟩
  · obtain ⟨a1, a2⟩ := fin _ none e1 rfl
    exact ⟨none, a1, a2, fun xs h => by cases h⟩
  · obtain ⟨a1, a2⟩ := fin _ (some S) e1 rfl
    refine ⟨some S, a1, a2, fun xs h => ?_⟩
    obtain rfl := Option.some.inj h
    rw [hS, rng_length]; omega
theorem sail_ok {h : List Int} (hh : Hd h) {c : CrT} (hc : CraftOk c) {n : Nat} (n0 : 1 ≤ n) (n1 : n ≤ 25) : ∃ p h', m_l_sail h s c (List.replicate n (rng 0 (s.1.length : Int))) = some (p, h') ∧ PathOk s.1.length p ∧ Hd h' := by
  have d0 := hs.1.1
  have dl := hs.1.2.1
  have zl : (rng 0 (s.1.length : Int)).length = s.1.length := by rw [rng_length]; omega
  have zat : ∀ i : Int, 0 ≤ i → i < n → at_ (List.replicate n (rng 0 (s.1.length : Int))) i = some (rng 0 (s.1.length : Int)) := fun i i0 i1 => at_int i0 (by rw [List.getElem?_replicate, if_pos (by omega)])
  unfold m_l_sail
  refine bdP (zat 0 (by decide) (by omega)) (iffP (decide_eq_false (by rw [zl]; omega)) ?_)
  refine bdP (zat 0 (by decide) (by omega)) (bdP (zat 0 (by decide) (by omega)) ?_)
  obtain ⟨a, h1, e1, a0, a1, hh1⟩ := pick_ok hh (n := ((rng 0 (s.1.length : Int)).length : Int)) (by omega) (by omega)
  refine bdP e1 ?_
  obtain ⟨x, ex, mx⟩ := at_mem (xs := rng 0 (s.1.length : Int)) a0 a1
  refine bdP ex ?_
  have hx := mem_rng.mp mx
  refine bdP (show at_ [x] 0 = some x from rfl) ?_
  refine bdP (filled_is s c x _) ?_
  refine bdP (rngO_ok (lo := 0) (hi := ((List.replicate n (rng 0 (s.1.length : Int))).length : Int) - 1) (by decide) (by decide) (by rw [List.length_replicate]; omega) (by rw [List.length_replicate]; omega)) ?_
  have run := forR_ind (f := m_l_sail_b1 s c (List.replicate n (rng 0 (s.1.length : Int)))) (xs := rng 0 (((List.replicate n (rng 0 (s.1.length : Int))).length : Int) - 1)) (s0 := (h1, [x], fillV s c x c.2.2.2.2)) (fun pre t => Hd t.1 ∧ PathOk s.1.length t.2.1 ∧ t.2.1.length = pre.length + 1) (fun r => PathOk s.1.length r.1 ∧ Hd r.2) ⟨hh1, ⟨by simp, by simp, fun y hy => by rw [List.mem_singleton] at hy; subst hy; exact hx⟩, rfl⟩ (fun pre w suf t e ht => by
    obtain ⟨t1, t2, t3⟩ := ht
    obtain ⟨g1, _, _, g4⟩ := rng_mid e
    rw [List.length_replicate] at g4
    obtain ⟨l, el, ml⟩ := at_last t2.1
    have hl := t2.2.2 l ml
    obtain ⟨R, r1, r2, r3⟩ := lanes_ok hs hc (w := w) hl.1 hl.2
    have z2 := forN_flat (f := m_l_sail_b2 t R) (xs := rng 0 (s.1.length : Int)) (acc := ([] : List Int)) (fun p => if goB R t.2.2 p = true then [p] else []) (fun x => by split <;> simp) (le_big (by rw [rng_length]; show 0 + _ ≤ _; omega)) (fun acc p hp hb => by
      have hp := mem_rng.mp hp
      have ep := gO_at (xs := R) hp.1 (by omega)
      unfold m_l_sail_b2
      refine bd ep ?_
      cases hg : gO R p with
      | none =>
        rw [hg] at ep
        rw [goB_none hg, if_neg Bool.false_ne_true, List.append_nil]
        exact bd (x := false) (iff' rfl rfl) (iff' rfl rfl)
      | some y =>
        rw [hg] at ep
        rw [goB_some hg]
        refine bd (x := decide (y ≤ t.2.2)) (ift rfl (bd ep (bd rfl rfl))) ?_
        by_cases k : y ≤ t.2.2
        · rw [decide_eq_true k]
          exact ift rfl (bd (app_ok hb) rfl)
        · rw [decide_eq_false k]
          exact iff' rfl (by rw [if_neg Bool.false_ne_true, List.append_nil]))
    rw [List.nil_append] at z2
    generalize hG : ((rng 0 (s.1.length : Int)).flatMap fun p => if goB R t.2.2 p = true then [p] else []) = G at z2
    have hGm : ∀ p ∈ G, (0 ≤ p ∧ p < s.1.length) ∧ ∃ y, gO R p = some y := fun p hp => by
      rw [← hG] at hp
      have z := filt_mem.mp hp
      refine ⟨z.1, ?_⟩
      cases hy : gO R p with
      | none => have z2 := z.2; rw [goB_none hy] at z2; exact absurd z2 Bool.false_ne_true
      | some y => exact ⟨y, rfl⟩
    have hGl : G.length ≤ 12 := by
      rw [← hG]
      exact Nat.le_trans (flat_le (fun p => by split <;> simp) _) (by rw [rng_length]; omega)
    unfold m_l_sail_b1
    by_cases kG : (G.length : Int) = 0
    · refine .inl ⟨_, bd el (bd r2 (bd (zat (w + 1) (by omega) (by omega)) (bd z2 (ift (decide_eq_true kG) rfl)))), t2, t1⟩
    · obtain ⟨b, h2, e2, b0, b1, hh2⟩ := pick_ok t1 (n := (G.length : Int)) (by omega) (by omega)
      obtain ⟨q, eq, mq⟩ := at_mem (xs := G) b0 b1
      obtain ⟨hq, y, hy⟩ := hGm q mq
      have eR := gO_at (xs := R) hq.1 (by omega)
      rw [hy] at eR
      refine .inr ⟨_, bd el (bd r2 (bd (zat (w + 1) (by omega) (by omega)) (bd z2 (iff' (decide_eq_false kG) (bd e2 (bd eq (bd eR (bd rfl (bd (filled_is s c q _) (bd (app_ok (xs := t.2.1) (lt_big (by omega))) rfl)))))))))), hh2, ⟨?_, ?_, ?_⟩, ?_⟩
      · show 1 ≤ (t.2.1 ++ [q]).length; rw [List.length_append]; show 1 ≤ _ + 1; omega
      · show (t.2.1 ++ [q]).length ≤ 25; rw [List.length_append, t3]; show pre.length + 1 + 1 ≤ 25; omega
      · intro z hz
        rcases List.mem_append.mp hz with hz | hz
        · exact t2.2.2 z hz
        · rw [List.mem_singleton] at hz; subst hz; exact hq
      · show (t.2.1 ++ [q]).length = _; rw [List.length_append, List.length_append, t3]; rfl)
  rcases run with ⟨r, e2, hr⟩ | ⟨t, e2, ht⟩
  · exact ⟨r.1, r.2, bd e2 rfl, hr.1, hr.2⟩
  · exact ⟨_, _, bd e2 rfl, ht.2.1, ht.1⟩
theorem open_ok {n : Nat} (h : n ≤ 25) : m_l_open s (n : Int) = some (List.replicate n (rng 0 (s.1.length : Int))) := by
  have dl := hs.1.2.1
  unfold m_l_open
  refine bd (rngO_ok (lo := 0) (hi := (n : Int)) (by decide) (by decide) (by omega) (by omega)) ?_
  have z := forN_thru (f := m_l_open_b1 s) (xs := rng 0 (n : Int)) (s0 := ([] : List (List Int))) (fun pre => List.replicate pre.length (rng 0 (s.1.length : Int))) rfl (fun pre x suf e => by
    have hp : pre.length ≤ 25 := by have := congrArg List.length e; rw [List.length_append, rng_length] at this; omega
    unfold m_l_open_b1
    refine bd (rngL_ok (lo := 0) (hi := (s.1.length : Int)) (by decide) (by decide) (by omega) (by omega) (by omega)) ?_
    refine bd (app_ok (xs := List.replicate pre.length (rng 0 (s.1.length : Int))) (lt_big (by rw [List.length_replicate]; omega))) ?_
    rw [List.length_append]
    show some (List.replicate pre.length _ ++ [_]) = some (List.replicate (pre.length + 1) _)
    rw [List.replicate_succ'])
  rw [rng_length, show ((n : Int) - 0).toNat = n by omega] at z
  exact bd z rfl
theorem ports_ok {h : List Int} (hh : Hd h) : ∃ s' h', m_l_ports h s = some (s', h') ∧ SeaOk s' ∧ Hd h' := by
  have d0 := hs.1.1
  have dl := hs.1.2.1
  unfold m_l_ports
  obtain ⟨a, h1, e1, a0, a1, hh1⟩ := pick_ok hh (n := 2) (by decide) (by decide)
  refine bdP e1 ?_
  by_cases k : a = 0
  · exact iftP (decide_eq_true k) ⟨_, _, rfl, hs, hh1⟩
  · obtain ⟨z, h2, e2, hz, hh2⟩ := some_ok hh1 (n := (s.1.length : Int)) (c := 2) (by omega) (by omega) (by decide) (by decide)
    exact iffP (decide_eq_false k) (bdP e2 ⟨_, _, rfl, ⟨hs.1, hs.2.1, hs.2.2.1, hz⟩, hh2⟩)
theorem craft_ok {h : List Int} (hh : Hd h) : ∃ c h', m_l_craft h s = some (c, h') ∧ CraftOk c ∧ Hd h' := by
  have d0 := hs.1.1
  have dl := hs.1.2.1
  unfold m_l_craft
  obtain ⟨a, h1, e1, a0, a1, hh1⟩ := pick_ok hh (n := (s.1.length : Int)) (by omega) (by omega)
  refine bdP e1 ?_
  obtain ⟨x, ex, mx⟩ := at_mem (xs := s.1) a0 a1
  refine bdP ex ?_
  obtain ⟨b, h2, e2, b0, b1, hh2⟩ := pick_ok hh1 (n := (s.1.length : Int)) (by omega) (by omega)
  refine bdP e2 ?_
  obtain ⟨y, ey, my⟩ := at_mem (xs := s.1) b0 b1
  refine bdP ey ?_
  have hx := hs.1.2.2 x mx
  have hy := hs.1.2.2 y my
  obtain ⟨k1, h3, e3, k10, k11, hh3⟩ := pick_ok hh2 (n := 3) (by decide) (by decide)
  refine bdP e3 ?_
  obtain ⟨dp, edp, mdp⟩ := at_mem (xs := [(0 : Int), x, y + 1]) k10 k11
  refine bdP edp ?_
  obtain ⟨k2, h4, e4, k20, k21, hh4⟩ := pick_ok hh3 (n := 4) (by decide) (by decide)
  refine bdP e4 ?_
  obtain ⟨lo, elo, mlo⟩ := at_mem (xs := [(0 : Int), (0 : Int), (0 : Int), (1 : Int)]) k20 k21
  refine bdP elo ?_
  obtain ⟨k3, h5, e5, k30, k31, hh5⟩ := pick_ok hh4 (n := 4) (by decide) (by decide)
  refine bdP e5 ?_
  obtain ⟨tp, etp, mtp⟩ := at_mem (xs := [(1 : Int), (1 : Int), (2 : Int), (3 : Int)]) k30 k31
  refine bdP etp (ltP' ?_)
  obtain ⟨k4, h6, e6, k40, k41, hh6⟩ := pick_ok hh5 (n := 4) (by decide) (by decide)
  refine bdP e6 ?_
  obtain ⟨ro, ero, mro⟩ := at_mem (xs := [(8 : Int), (8 : Int), (3 : Int), (1 : Int)]) k40 k41
  refine bdP ero ?_
  have hdp : 0 ≤ dp := by simp at mdp; omega
  have hlo : 0 ≤ lo ∧ lo ≤ 1 := by simp at mlo; omega
  have htp : 1 ≤ tp ∧ tp ≤ 3 := by simp at mtp; omega
  have hro : 1 ≤ ro ∧ ro ≤ 8 := by simp at mro; omega
  obtain ⟨k5, h7, e7, k50, k51, hh7⟩ := pick_ok hh6 (n := ro + 1) (by omega) (by omega)
  refine bdP e7 ?_
  obtain ⟨k6, h8, e8, k60, k61, hh8⟩ := pick_ok hh7 (n := 2) (by decide) (by decide)
  refine bdP e8 ?_
  obtain ⟨am, eam, mam⟩ := at_mem (xs := [ro, k5]) k60 k61
  refine bdP eam ?_
  have ham : 0 ≤ am ∧ am ≤ ro := by simp at mam; omega
  exact ⟨_, _, rfl, ⟨by show 0 ≤ min dp 99; omega, by show min dp 99 ≤ 99; omega, hlo.1, by show lo ≤ max lo tp; omega, by show max lo tp ≤ 3; omega, by show 0 ≤ ro; omega, hro.2, ham.1, ham.2⟩, hh8⟩
theorem boat_ok {h : List Int} (hh : Hd h) : ∃ c h', m_l_boat h s = some (c, h') ∧ CraftOk c ∧ Hd h' := by
  unfold m_l_boat
  obtain ⟨c, h1, e1, hc, hh1⟩ := craft_ok hs hh
  refine bdP e1 ?_
  obtain ⟨a, h2, e2, a0, a1, hh2⟩ := pick_ok hh1 (n := 2) (by decide) (by decide)
  refine bdP e2 ?_
  by_cases k : a = 0
  · exact iftP (decide_eq_true k) ⟨_, _, rfl, hc, hh2⟩
  · refine iffP (decide_eq_false k) ?_
    obtain ⟨b, h3, e3, b0, b1, hh3⟩ := pick_ok hh2 (n := 100) (by decide) (by decide)
    refine bdP e3 ?_
    obtain ⟨d, h4, e4, d0, d1, hh4⟩ := pick_ok hh3 (n := 3) (by decide) (by decide)
    refine bdP e4 ?_
    obtain ⟨dp, edp, mdp⟩ := at_mem (xs := [c.1, c.1, b]) d0 d1
    refine bdP edp ?_
    have hc1 := hc.1
    have hc2 := hc.2.1
    have hdp : 0 ≤ dp ∧ dp ≤ 99 := by simp at mdp; omega
    obtain ⟨lo, h5, e5, lo0, lo1, hh5⟩ := pick_ok hh4 (n := 4) (by decide) (by decide)
    refine bdP e5 ?_
    obtain ⟨up, h6, e6, up0, up1, hh6⟩ := pick_ok hh5 (n := 4 - lo) (by omega) (by omega)
    refine bdP e6 (ltP' ?_)
    obtain ⟨ro, h7, e7, ro0, ro1, hh7⟩ := pick_ok hh6 (n := 9) (by decide) (by decide)
    refine bdP e7 ?_
    obtain ⟨fu, h8, e8, fu0, fu1, hh8⟩ := pick_ok hh7 (n := ro + 1) (by omega) (by omega)
    refine bdP e8 ?_
    exact ⟨_, _, rfl, ⟨hdp.1, hdp.2, lo0, by show lo ≤ lo + up; omega, by show lo + up ≤ 3; omega, ro0, by show ro ≤ 8; omega, fu0, by show fu ≤ ro; omega⟩, hh8⟩
theorem other_ok : ∃ z, m_l_other_sea s = some z ∧ SeaOk z ∧ z.1.length = s.1.length := by
  have ht := hs.2.2.1
  have t0 := ht.1
  have t1 := ht.2.1
  have l1 := cut_from (xs := s.2.2.1) (i := 1) (by decide) (by omega)
  have l2 := cut_to (xs := s.2.2.1) (i := 1) (by decide) (by omega)
  have i1 : (1 : Int).toNat = 1 := rfl
  rw [i1] at l1 l2
  have esub : ∀ {α : Type} (xs : List α), (evens xs).Sublist xs := by
    intro α xs
    have key : ∀ (n : Nat) (xs : List α), xs.length ≤ n → (evens xs).Sublist xs := by
      intro n
      induction n with
      | zero => intro xs h; cases xs with
        | nil => exact List.Sublist.refl _
        | cons x xs => simp at h
      | succ n ih => intro xs h; match xs, h with
        | [], _ => exact List.Sublist.refl _
        | [x], _ => exact List.Sublist.refl _
        | x :: y :: r, h => exact List.Sublist.cons₂ x (List.Sublist.cons y (ih r (by simp at h; omega)))
    exact key xs.length xs (Nat.le_refl _)
  unfold m_l_other_sea
  refine ⟨_, bd (cat_ok (xs := cut s.2.2.1 (some 1) none) (ys := cut s.2.2.1 none (some 1)) (le_big (by omega))) rfl, ⟨⟨?_, ?_, ?_⟩, ?_, ⟨?_, ?_, ?_⟩, ?_⟩, ?_⟩
  · show 1 ≤ s.1.reverse.length; rw [List.length_reverse]; exact hs.1.1
  · show s.1.reverse.length ≤ 12; rw [List.length_reverse]; exact hs.1.2.1
  · intro x hx; exact hs.1.2.2 x (List.mem_reverse.mp hx)
  · show LanesU (s.1.reverse.length : Int) (evens s.2.1); rw [List.length_reverse]; exact sub_lanes hs.2.1 (esub _)
  · show 1 ≤ (cut s.2.2.1 (some 1) none ++ cut s.2.2.1 none (some 1)).length; rw [List.length_append]; omega
  · show (cut s.2.2.1 (some 1) none ++ cut s.2.2.1 none (some 1)).length ≤ 12; rw [List.length_append]; omega
  · intro x hx
    rcases List.mem_append.mp hx with hx | hx
    · exact ht.2.2 x (cut_mem hx)
    · exact ht.2.2 x (cut_mem hx)
  · show PortOk (s.1.reverse.length : Int) s.2.2.2; rw [List.length_reverse]; exact hs.2.2.2
  · show s.1.reverse.length = _; rw [List.length_reverse]
end
theorem amounts_ok {R : Option (List Int)} (h : ∀ xs, R = some xs → xs.length ≤ 25) : m_l_amounts R R = some true := by
  unfold m_l_amounts
  cases R with
  | none => exact ift rfl rfl
  | some xs =>
    have hl := h xs rfl
    refine iff' rfl (bd (x := false) (iff' rfl (bd rfl (bd rfl (congrArg some (by simp))))) (iff' rfl (bd rfl ?_)))
    refine bd (rngO_ok (lo := 0) (hi := (xs.length : Int)) (by decide) (by decide) (by omega) (by omega)) ?_
    refine bd (forR_all fun k hk => ?_) rfl
    have hk := mem_rng.mp hk
    obtain ⟨y, ey, _⟩ := at_some hk.1 hk.2
    unfold m_l_amounts_b1
    exact bd (x := false) (bd rfl (bd ey (bd rfl (iff' rfl (bd ey (bd ey (congrArg some (by simp)))))))) (iff' rfl rfl)
theorem law_true (s : List Int) (_ : s.length ≤ 63) : m_law s = some true := by
  unfold m_law
  obtain ⟨h0, e0, hh0⟩ := hand_ok s 0 (by decide)
  refine bd e0 ?_
  obtain ⟨a, h1, e1, a0, a1, hh1⟩ := pick_ok hh0 (n := 8) (by decide) (by decide)
  refine bd e1 ?_
  obtain ⟨k, e2, m2⟩ := at_mem (xs := [(6 : Int), (6 : Int), (6 : Int), (6 : Int), (6 : Int), (6 : Int), (6 : Int), (12 : Int)]) a0 a1
  refine bd e2 ?_
  obtain ⟨w1, h2, e3, hw1, hh2, _⟩ := sea_ok hh1 (n := k) (by simp at m2; omega) (by simp at m2; omega)
  refine bd e3 ?_
  obtain ⟨w2, h3, e4, hw2, hh3, _⟩ := flowsS_ok hh2 hw1
  refine bd e4 ?_
  obtain ⟨s1, h4, e5, hs1, hh4⟩ := ports_ok hw2 hh3
  refine bd e5 ?_
  refine bd (rngO_ok (lo := 0) (hi := 2) (by decide) (by decide) (by decide) (by decide)) ?_
  obtain ⟨g1, f1, hg1⟩ := hand_ok s 1 (by decide)
  obtain ⟨g2, f2, hg2⟩ := hand_ok s 6 (by decide)
  obtain ⟨c1, _, f3, hc1, _⟩ := boat_ok hs1 hg1
  obtain ⟨c2, _, f4, hc2, _⟩ := boat_ok hs1 hg2
  have ec : forN (m_law_b1 s (s1, h4)) ([] : List CrT) (rng 0 2) = some [c1, c2] := by
    show forN (m_law_b1 s (s1, h4)) ([] : List CrT) [0, 1] = some [c1, c2]
    refine bd (x := [c1]) (by unfold m_law_b1; exact bd (show at_ [(1 : Int), 6] 0 = some 1 from rfl) (bd f1 (bd f3 (bd (app_ok (lt_big (by decide))) rfl)))) ?_
    refine bd (x := [c1, c2]) (by unfold m_law_b1; exact bd (show at_ [(1 : Int), 6] 1 = some 6 from rfl) (bd f2 (bd f4 (bd (app_ok (lt_big (by simp))) rfl)))) rfl
  refine bd ec ?_
  obtain ⟨h5, e6, hh5⟩ := hand_ok s 2 (by decide)
  refine bd e6 ?_
  obtain ⟨b, h6, e7, b0, b1, hh6⟩ := pick_ok hh5 (n := 9) (by decide) (by decide)
  refine bd e7 (ltE ?_)
  have j1 : ∃ r : List Int × Int, ((m_l_pick h6 (8 : Int)).bind fun q118 => if (decide (q118.1 = (0 : Int))) = true then (pyLet ((25 : Int) : Int) fun count121 => some (q118.2, count121)) else (some (q118.2, 1 + b)) : Option ((List Int) × Int)) = some r ∧ Hd r.1 ∧ 1 ≤ r.2 ∧ r.2 ≤ 25 := by
    obtain ⟨z, k5, e13, _, _, hk5⟩ := pick_ok hh6 (n := 8) (by decide) (by decide)
    by_cases c : z = 0
    · exact ⟨(k5, 25), bd e13 (ift (decide_eq_true c) (ltE rfl)), hk5, by show (1 : Int) ≤ 25; decide, by show (25 : Int) ≤ 25; decide⟩
    · exact ⟨(k5, 1 + b), bd e13 (iff' (decide_eq_false c) rfl), hk5, by show 1 ≤ 1 + b; omega, by show 1 + b ≤ 25; omega⟩
  obtain ⟨⟨h7, cn⟩, e8, hh7, cn0, cn1⟩ := j1
  refine bd e8 ?_
  simp only at cn0 cn1
  refine bd (show at_ [c1, c2] 0 = some c1 from rfl) ?_
  obtain ⟨n, rfl⟩ : ∃ n : Nat, cn = (n : Int) := ⟨cn.toNat, by omega⟩
  refine bd (open_ok hs1 (n := n) (by omega)) ?_
  obtain ⟨pa, h8, e9, hpa, hh8⟩ := sail_ok hs1 hh7 hc1 (n := n) (by omega) (by omega)
  refine bd e9 ?_
  obtain ⟨h9, e10, hh9⟩ := hand_ok s 7 (by decide)
  refine bd e10 ?_
  obtain ⟨b2, h10, e11, b20, b21, hh10⟩ := pick_ok hh9 (n := 4) (by decide) (by decide)
  refine bd e11 ?_
  refine bd (rngO_ok (lo := 0) (hi := max 0 (b2 - 1)) (by decide) (by decide) (by omega) (by omega)) ?_
  have d0 := hs1.1.1
  have dl := hs1.1.2.1
  obtain ⟨⟨h11, po⟩, e12, _, hpo⟩ := forN_inv (f := m_law_b2 (s1, h4)) (fun t => Hd t.1 ∧ PathOk s1.1.length t.2) (xs := rng 0 (max 0 (b2 - 1))) (s := (h10, pa)) ⟨hh10, hpa⟩ (fun t x _ ht => by
    obtain ⟨t1, t2⟩ := ht
    have q0 := t2.1
    have q1 := t2.2.1
    unfold m_law_b2
    obtain ⟨u, g1, f1, u0, u1, hg1⟩ := pick_ok t1 (n := (t.2.length : Int)) (by omega) (by omega)
    obtain ⟨v, g2, f2, v0, v1, hg2⟩ := pick_ok hg1 (n := (s1.1.length : Int)) (by omega) (by omega)
    refine ⟨_, bd f1 (bd f2 (bd (setAt_ok u0 u1) rfl)), hg2, by show 1 ≤ (t.2.set u.toNat v).length; rw [List.length_set]; exact t2.1, by show (t.2.set u.toNat v).length ≤ 25; rw [List.length_set]; exact t2.2.1, fun z hz => ?_⟩
    rcases List.mem_or_eq_of_mem_set hz with hz | hz
    · exact t2.2.2 z hz
    · subst hz; exact ⟨v0, v1⟩)
  refine bd e12 ?_
  obtain ⟨s2, e13, hs2, hl2⟩ := other_ok hs1
  refine bd e13 ?_
  have eh : forN m_law_b3 ([] : List ChT) [s1, s2] = some [chOf s1.1 s1.2.1 s1.2.2.1 s1.2.2.2, chOf s2.1 s2.2.1 s2.2.2.1 s2.2.2.2] := by
    refine bd (x := [chOf s1.1 s1.2.1 s1.2.2.1 s1.2.2.2]) (by unfold m_law_b3; exact bd (chart_ok hs1) (bd (app_ok (lt_big (by decide))) rfl)) ?_
    refine bd (x := [chOf s1.1 s1.2.1 s1.2.2.1 s1.2.2.2, chOf s2.1 s2.2.1 s2.2.2.1 s2.2.2.2]) (by unfold m_law_b3; exact bd (chart_ok hs2) (bd (app_ok (lt_big (by simp))) rfl)) rfl
  refine bd eh ?_
  have es : forN m_law_b4 ([] : List CrT) [c1, c2] = some [c1, c2] := by
    refine bd (x := [c1]) (by unfold m_law_b4; exact bd (ship_ok hc1) (bd (app_ok (lt_big (by decide))) rfl)) ?_
    refine bd (x := [c1, c2]) (by unfold m_law_b4; exact bd (ship_ok hc2) (bd (app_ok (lt_big (by simp))) rfl)) rfl
  refine bd es ?_
  have row : ∀ (S : List Int) (p : List Int), PathOk s1.1.length p → m_law_b5 (s1, h4) [c1, c2] s2 [chOf s1.1 s1.2.1 s1.2.2.1 s1.2.2.2, chOf s2.1 s2.2.1 s2.2.2.1 s2.2.2.2] [c1, c2] S p = some (.inr p) := by
    intro S p hp
    have hp1 := hp.2.1
    unfold m_law_b5
    refine bd (show ext ([] : List Int) p = some p from if_pos (le_big (by show 0 + p.length ≤ 100000; omega))) ?_
    refine bd (rngO_ok (lo := 0) (hi := 2) (by decide) (by decide) (by decide) (by decide)) ?_
    refine bd (forR_all fun i hi => ?_) rfl
    have hi := mem_rng.mp hi
    unfold m_law_b6
    refine bd (rngO_ok (lo := 0) (hi := 2) (by decide) (by decide) (by decide) (by decide)) ?_
    refine bd (forR_all fun j hj => ?_) rfl
    have hj := mem_rng.mp hj
    have hC : ∃ c, at_ [c1, c2] j = some c ∧ CraftOk c := by
      by_cases z : j = 0
      · subst z; exact ⟨c1, rfl, hc1⟩
      · obtain rfl : j = 1 := by omega
        exact ⟨c2, rfl, hc2⟩
    obtain ⟨c, ecc, hcc⟩ := hC
    have hS : ∃ z, at_ [s1, s2] i = some z ∧ at_ [chOf s1.1 s1.2.1 s1.2.2.1 s1.2.2.2, chOf s2.1 s2.2.1 s2.2.2.1 s2.2.2.2] i = some (chOf z.1 z.2.1 z.2.2.1 z.2.2.2) ∧ SeaOk z ∧ z.1.length = s1.1.length := by
      by_cases z : i = 0
      · subst z; exact ⟨s1, rfl, rfl, hs1, rfl⟩
      · obtain rfl : i = 1 := by omega
        exact ⟨s2, rfl, rfl, hs2, hl2⟩
    obtain ⟨z, ez, ez2, hz, hzl⟩ := hS
    obtain ⟨R, r1, r2, r3⟩ := fuel_ok hz hcc (path := p) (by rw [hzl]; exact hp)
    unfold m_law_b7
    refine bd ez2 (bd ecc (bd r1 ?_))
    refine bd (x := false) (bd ez (bd ecc (bd r2 (bd (amounts_ok r3) (iff' rfl (congrArg some (by simp))))))) (iff' rfl ?_)
    cases R with
    | none => exact bd (x := ()) (iff' rfl rfl) rfl
    | some xs =>
      have hl := r3 xs rfl
      exact bd (x := ()) (ift rfl (bd rfl (bd (app_ok (xs := xs) (lt_big (by omega))) rfl))) rfl
  refine bd (x := .inr pa) ?_ rfl
  rw [forR_step (row [] pa hpa), forR_step (row pa po hpo), forR_step (row po pa hpa)]
  rfl


end Mi
namespace G
open PySem PySem.Spec PyProof.Rows L2
/-! ### what never changes, and how a heap changes -/
/-- the attribute that an __init__ sets last: an instance with it is whole and stays as it is -/
def lastF : List Str := ["joined", "fuel", "reach", "inside", "hops", "letters", "hours"]
def done (fs : List (Str × V)) : Bool := fs.any fun p => lastF.any fun q => decide (q = p.1)
def Froz : HO → Prop
  | .tup _ => True
  | .ins _ _ fs => done fs = true
  | .own _ => True
  | .frz _ _ => True
  | _ => False
structure Chg (M : List Addr) (H H' : Hp) : Prop where
  keep : ∀ b o, H b = some o → (b ∉ M ∨ Froz o) → H' b = some o
  dom : ∀ b, H' b = none → H b = none
theorem Chg.refl {M : List Addr} (H : Hp) : Chg M H H := ⟨fun _ _ h _ => h, fun _ h => h⟩
theorem Chg.trans {M : List Addr} {H H1 H2 : Hp} (a : Chg M H H1) (b : Chg M H1 H2) : Chg M H H2 :=
  ⟨fun x o h d => b.keep x o (a.keep x o h d) d, fun x h => a.dom x (b.dom x h)⟩
theorem Chg.mono {M N : List Addr} {H H' : Hp} (a : Chg M H H') (s : ∀ x ∈ M, x ∈ N) : Chg N H H' :=
  ⟨fun b o h d => a.keep b o h (d.imp (fun z y => z (s b y)) id), a.dom⟩
theorem Chg.none {M : List Addr} {H H' : Hp} (a : Chg [] H H') : Chg M H H' := a.mono (fun x h => nomatch h)
theorem Chg.new {M : List Addr} {H : Hp} {p : Addr} {o : HO} (np : H p = .none) : Chg M H (upd H p o) :=
  ⟨fun b u h _ => by rw [upd_ne (ne_of_none h np)]; exact h, fun b h => by
    by_cases e : b = p
    · subst e; exact np
    · rw [upd_ne e] at h; exact h⟩
theorem Chg.wr {H : Hp} {p : Addr} {o u : HO} (hp : H p = some u) (nf : ¬ Froz u) : Chg [p] H (upd H p o) :=
  ⟨fun b w h d => by
    have e : b ≠ p := by
      intro e; subst e
      rw [hp] at h; cases h
      rcases d with d | d
      · exact d (List.mem_singleton.mpr rfl)
      · exact nf d
    rw [upd_ne e]; exact h, fun b h => by
    by_cases e : b = p
    · subst e; rw [upd_same] at h; cases h
    · rw [upd_ne e] at h; exact h⟩
/-- what was made behind H0 may change -/
theorem Chg.loc {M N : List Addr} {H0 H H' : Hp} (a : Chg M H0 H) (b : Chg N H H') (fr : ∀ x ∈ N, H0 x = .none) : Chg M H0 H' :=
  ⟨fun x o h d => b.keep x o (a.keep x o h d) (.inl (fun z => by rw [fr x z] at h; cases h)), fun x h => a.dom x (b.dom x h)⟩
/-- the part N of M, and what was made behind H0, may change -/
theorem Chg.join {M N : List Addr} {H0 H H' : Hp} (a : Chg M H0 H) (b : Chg N H H') (fr : ∀ x ∈ N, x ∈ M ∨ H0 x = .none) : Chg M H0 H' :=
  ⟨fun x o h d => b.keep x o (a.keep x o h d) (by
    rcases d with d | d
    · refine .inl (fun z => ?_)
      rcases fr x z with y | y
      · exact d y
      · rw [y] at h; cases h
    · exact .inr d), fun x h => a.dom x (b.dom x h)⟩
theorem Chg.free {M : List Addr} {H H' : Hp} (a : Chg M H H') {p : Addr} (np : H' p = .none) : H p = .none := a.dom p np
/-! ### kinds of data -/
structure Ty (α : Type) where
  rep : PySem.W.Frag → Hp → List Addr → V → α → Prop
  keep : ∀ {K : PySem.W.Frag} {H H' : Hp} {F : List Addr} {v : V} {d : α}, rep K H F v d → (∀ b o, H b = some o → (b ∈ F ∨ Froz o) → H' b = some o) → rep K H' F v d
  dom : ∀ {K : PySem.W.Frag} {H : Hp} {F : List Addr} {v : V} {d : α}, rep K H F v d → ∀ b ∈ F, ∃ o, H b = some o ∧ ¬ Froz o
/-- a and b have nothing in common -/
def Dj (F G : List Addr) : Prop := ∀ a ∈ F, a ∉ G
theorem Dj.symm {F G : List Addr} (d : Dj F G) : Dj G F := fun a h z => d a z h
theorem Dj.nil {F : List Addr} : Dj [] F := fun a h => nomatch h
theorem Dj.nilR {F : List Addr} : Dj F [] := fun a h z => nomatch z
section
variable {α β : Type} {τ : Ty α} {υ : Ty β} {K : PySem.W.Frag} {H H' : Hp} {F G M : List Addr} {v u : V} {d : α} {p : Addr}
theorem Ty.chg (r : τ.rep K H F v d) (c : Chg M H H') (dj : Dj F M) : τ.rep K H' F v d :=
  τ.keep r fun b o h z => c.keep b o h (z.imp (fun y => dj b y) id)
theorem Ty.ex (r : τ.rep K H F v d) (c : Chg [] H H') : τ.rep K H' F v d := Ty.chg r c Dj.nilR
theorem Ty.fz (r : τ.rep K H [] v d) (c : Chg M H H') : τ.rep K H' [] v d := Ty.chg r c Dj.nil
theorem Ty.nin (r : τ.rep K H F v d) (np : H p = none) : Dj F [p] := fun a h z => by
  rw [List.mem_singleton] at z; subst z
  obtain ⟨o, e, _⟩ := τ.dom r a h
  rw [np] at e; cases e
theorem Ty.fresh (r : τ.rep K H F v d) (np : ∀ a ∈ G, H a = none) : Dj F G := fun a h z => by
  obtain ⟨o, e, _⟩ := τ.dom r a h
  rw [np a z] at e; cases e
end
theorem one_fresh {H : Hp} {p : Addr} (np : H p = none) : ∀ a ∈ [p], H a = none := fun a h => by
  rw [List.mem_singleton] at h; subst h; exact np
/-! ### flat data -/
def yInt : Ty Int := ⟨fun _ _ F v d => F = [] ∧ v = .int d, fun h _ => h, fun h b m => by rw [h.1] at m; cases m⟩
def yBool : Ty Bool := ⟨fun _ _ F v d => F = [] ∧ v = .bl d, fun h _ => h, fun h b m => by rw [h.1] at m; cases m⟩
def toS (l : List Nat) : Str := ⟨l.toArray⟩
def yStr : Ty (List Nat) := ⟨fun _ _ F v d => F = [] ∧ v = .str (toS d), fun h _ => h, fun h b m => by rw [h.1] at m; cases m⟩
def yNon : Ty Unit := ⟨fun _ _ F v _ => F = [] ∧ v = .non, fun h _ => h, fun h b m => by rw [h.1] at m; cases m⟩
theorem yInt_i {K : PySem.W.Frag} {H : Hp} {i : Int} : yInt.rep K H [] (.int i) i := ⟨rfl, rfl⟩
theorem yBool_i {K : PySem.W.Frag} {H : Hp} {i : Bool} : yBool.rep K H [] (.bl i) i := ⟨rfl, rfl⟩
theorem yStr_i {K : PySem.W.Frag} {H : Hp} {i : List Nat} : yStr.rep K H [] (.str (toS i)) i := ⟨rfl, rfl⟩
theorem yNon_i {K : PySem.W.Frag} {H : Hp} : yNon.rep K H [] .non () := ⟨rfl, rfl⟩
/-- None or data -/
def yOpt {α : Type} (τ : Ty α) : Ty (Option α) where
  rep K H F v d := match d with
    | none => F = [] ∧ v = .non
    | some x => v ≠ .non ∧ τ.rep K H F v x
  keep {K H H' F v d} h k := by
    cases d with
    | none => exact h
    | some x => exact ⟨h.1, τ.keep h.2 k⟩
  dom {K H F v d} h b m := by
    cases d with
    | none => rw [h.1] at m; cases m
    | some x => exact τ.dom h.2 b m
/-- a list whose items never change -/
def yLst {α : Type} (τ : Ty α) : Ty (List α) where
  rep K H F v xs := ∃ a vs, v = .ref a ∧ F = [a] ∧ H a = some (.lst vs) ∧ Paired (fun u x => τ.rep K H [] u x) vs xs
  keep {K H H' F v xs} h k := by
    obtain ⟨a, vs, e, f, g, r⟩ := h
    subst f
    exact ⟨a, vs, e, rfl, k a _ g (.inl (List.mem_singleton.mpr rfl)), Paired.mapP r fun u x q => τ.keep q fun b o hb z => k b o hb (z.elim (fun y => nomatch y) .inr)⟩
  dom {K H F v xs} h b m := by
    obtain ⟨a, vs, e, f, g, r⟩ := h
    subst f
    rw [List.mem_singleton] at m; subst m
    exact ⟨_, g, fun z => z⟩
theorem SqT.keeps {K : PySem.W.Frag} {H H' : Hp} {a : Addr} {vs : List V} (s : SqT K H a vs) (k : ∀ b o, H b = some o → Froz o → H' b = some o) : SqT K H' a vs := by
  rcases s with (s | ⟨o, s⟩) | s
  · exact .inl (.inl (k _ _ s trivial))
  · exact .inl (.inr ⟨o, k _ _ s trivial⟩)
  · exact .inr s
/-- the items of a tuple -/
structure Tys (α : Type) where
  rep : PySem.W.Frag → Hp → List Addr → List V → α → Prop
  keep : ∀ {K : PySem.W.Frag} {H H' : Hp} {F : List Addr} {v : List V} {d : α}, rep K H F v d → (∀ b o, H b = some o → (b ∈ F ∨ Froz o) → H' b = some o) → rep K H' F v d
  dom : ∀ {K : PySem.W.Frag} {H : Hp} {F : List Addr} {v : List V} {d : α}, rep K H F v d → ∀ b ∈ F, ∃ o, H b = some o ∧ ¬ Froz o
def sOne {α : Type} (τ : Ty α) : Tys α where
  rep K H F vs x := ∃ v, vs = [v] ∧ τ.rep K H F v x
  keep h k := by obtain ⟨v, e, r⟩ := h; exact ⟨v, e, τ.keep r k⟩
  dom h b m := by obtain ⟨v, e, r⟩ := h; exact τ.dom r b m
def sCons {α β : Type} (τ : Ty α) (ts : Tys β) : Tys (α × β) where
  rep K H F vs x := ∃ v ws F1 F2, vs = v :: ws ∧ F = F1 ++ F2 ∧ τ.rep K H F1 v x.1 ∧ ts.rep K H F2 ws x.2
  keep {K H H' F v d} h k := by
    obtain ⟨v, ws, F1, F2, e, f, r, q⟩ := h
    subst f
    exact ⟨v, ws, F1, F2, e, rfl, τ.keep r fun b o hb z => k b o hb (z.imp (fun y => List.mem_append_left _ y) id), ts.keep q fun b o hb z => k b o hb (z.imp (fun y => List.mem_append_right _ y) id)⟩
  dom {K H F v d} h b m := by
    obtain ⟨v, ws, F1, F2, e, f, r, q⟩ := h
    subst f
    rcases List.mem_append.mp m with m | m
    · exact τ.dom r b m
    · exact ts.dom q b m
def yTup {α : Type} (ts : Tys α) : Ty α where
  rep K H F v d := ∃ a vs, v = .ref a ∧ SqT K H a vs ∧ ts.rep K H F vs d
  keep h k := by
    obtain ⟨a, vs, e, s, r⟩ := h
    exact ⟨a, vs, e, SqT.keeps s fun b o hb z => k b o hb (.inr z), ts.keep r k⟩
  dom h b m := by obtain ⟨a, vs, e, s, r⟩ := h; exact ts.dom r b m
/-- a tuple of any number of things of one kind that never change -/
def yTupL {α : Type} (τ : Ty α) : Ty (List α) where
  rep K H F v xs := ∃ a vs, v = .ref a ∧ F = [] ∧ SqT K H a vs ∧ Paired (fun u x => τ.rep K H [] u x) vs xs
  keep {K H H' F v xs} h k := by
    obtain ⟨a, vs, e, f, g, r⟩ := h
    exact ⟨a, vs, e, f, SqT.keeps g fun b o hb z => k b o hb (.inr z), Paired.mapP r fun u x q => τ.keep q fun b o hb z => k b o hb (z.elim (fun y => nomatch y) .inr)⟩
  dom {K H F v xs} h b m := by
    obtain ⟨a, vs, e, f, g, r⟩ := h
    rw [f] at m; cases m
/-- the script -/
def yScr : Ty (List Int) where
  rep K H F v xs := F = [] ∧ ∃ a, v = .ref a ∧ ∀ H', (∀ b o, H b = some o → Froz o → H' b = some o) → SqL K H' a (xs.map V.int)
  keep {K H H' F v xs} h k := by
    obtain ⟨f, a, e, g⟩ := h
    exact ⟨f, a, e, fun H2 k2 => g H2 fun b o hb z => k2 b o (k b o hb (.inr z)) z⟩
  dom {K H F v xs} h b m := by
    rw [h.1] at m; cases m
theorem yScr_of {K : PySem.W.Frag} {H : Hp} {a : Addr} {ns : List Int} (o : Only H) (s : SqL K H a (ns.map V.int)) : yScr.rep K H [] (.ref a) ns := by
  refine ⟨rfl, a, rfl, fun H' k => ?_⟩
  rcases s with (s | ⟨ob, s⟩) | s
  · rcases o a with z | ⟨_, _, z⟩
    · rw [z] at s; cases s
    · rw [z] at s; cases s
  · exact .inl (.inr ⟨ob, k _ _ s trivial⟩)
  · exact .inr s
end G

namespace G
open PySem PySem.Spec PyProof.Rows L2
theorem at_eq {α : Type} (xs : List α) (i : Int) : L2.atI xs i = Mi.at_ xs i := rfl
theorem ixN_eq (n : Nat) (i : Int) : L2.ixN n i = Mi.ixN n i := rfl
theorem line_big : Mi.big ≤ sizeLine := by rw [sizeLine_eq]; decide
section paired
variable {α β γ : Type} {R : α → β → Prop}
theorem pr_len {xs : List α} {ys : List β} (r : Paired R xs ys) : xs.length = ys.length := Paired.length r
theorem pr_get : ∀ {xs : List α} {ys : List β} {j : Nat} {y : β}, Paired R xs ys → ys[j]? = some y → ∃ x, xs[j]? = some x ∧ R x y
  | _, _, _, _, .nil, e => by simp at e
  | _, _, 0, _, .cons r _, e => by simp at e; subst e; exact ⟨_, rfl, r⟩
  | _, _, j + 1, y, .cons _ t, e => by
    obtain ⟨u, h1, h2⟩ := pr_get (j := j) (y := y) t (by simpa using e)
    exact ⟨u, by simpa using h1, h2⟩
theorem pr_getL : ∀ {xs : List α} {ys : List β} {j : Nat} {x : α}, Paired R xs ys → xs[j]? = some x → ∃ y, ys[j]? = some y ∧ R x y
  | _, _, _, _, .nil, e => by simp at e
  | _, _, 0, _, .cons r _, e => by simp at e; subst e; exact ⟨_, rfl, r⟩
  | _, _, j + 1, y, .cons _ t, e => by
    obtain ⟨u, h1, h2⟩ := pr_getL (j := j) (x := y) t (by simpa using e)
    exact ⟨u, by simpa using h1, h2⟩
theorem pr_set {x : α} {y : β} (r : R x y) : ∀ {xs : List α} {ys : List β} (i : Nat), Paired R xs ys → Paired R (xs.set i x) (ys.set i y)
  | _, _, _, .nil => .nil
  | _, _, 0, .cons _ t => .cons r t
  | _, _, i + 1, .cons q t => .cons q (pr_set r i t)
theorem pr_app : ∀ {xs zs : List α} {ys ws : List β}, Paired R xs ys → Paired R zs ws → Paired R (xs ++ zs) (ys ++ ws)
  | _, _, _, _, .nil, s => s
  | _, _, _, _, .cons r t, s => .cons r (pr_app t s)
theorem pr_take : ∀ {xs : List α} {ys : List β} (n : Nat), Paired R xs ys → Paired R (xs.take n) (ys.take n)
  | _, _, 0, _ => .nil
  | _, _, _ + 1, .nil => .nil
  | _, _, n + 1, .cons r t => .cons r (pr_take n t)
theorem pr_drop : ∀ {xs : List α} {ys : List β} (n : Nat), Paired R xs ys → Paired R (xs.drop n) (ys.drop n)
  | _, _, 0, r => r
  | _, _, _ + 1, .nil => .nil
  | _, _, n + 1, .cons _ t => pr_drop n t
theorem pr_at {xs : List α} {ys : List β} {i : Int} {y : β} (r : Paired R xs ys) (h : Mi.at_ ys i = some y) : ∃ x, L2.atI xs i = some x ∧ R x y := by
  rw [at_eq]
  unfold Mi.at_ at h ⊢
  rw [pr_len r]
  obtain ⟨j, e, h⟩ := Mi.bnd h
  obtain ⟨x, e2, q⟩ := pr_get r h
  exact ⟨x, by rw [e]; exact e2, q⟩
theorem pr_map (f : β → α) (h : ∀ b, R (f b) b) : ∀ ys : List β, Paired R (ys.map f) ys
  | [] => .nil
  | y :: ys => .cons (h y) (pr_map f h ys)
theorem pr_of_map (f : β → α) (h : ∀ a b, R a b → a = f b) : ∀ {xs : List α} {ys : List β}, Paired R xs ys → xs = ys.map f
  | _, _, .nil => rfl
  | _, _, .cons r t => by rw [h _ _ r, pr_of_map f h t]; rfl
end paired
theorem ints_of {K : PySem.W.Frag} {H : Hp} {vs : List V} {ns : List Int} (r : Paired (fun u x => yInt.rep K H [] u x) vs ns) : vs = ns.map V.int := pr_of_map V.int (fun _ _ q => q.2) r
theorem ints_mk {K : PySem.W.Frag} {H : Hp} (ns : List Int) : Paired (fun u x => yInt.rep K H [] u x) (ns.map V.int) ns := pr_map V.int (fun _ => ⟨rfl, rfl⟩) ns
/-! ### values without a change of the heap -/
section vals
variable {K : PySem.W.Frag} {σ : L2.St} {H : Hp} {F : List Addr} {ta tb te : TE} {v u x y : V} {i j : Int} {t : TT} {b c : Bool} {α β : Type} {τ : Ty α}
theorem val_I0 {g : Int → Int → V} (ha : Val ta σ H (.int i)) (hb : Val tb σ H (.int j)) : Val (tOp (rI0 g) ta tb) σ H (g i j) := val_op ha hb fun Q q => ⟨i, j, rfl, rfl, q⟩
theorem val_I {C : Int → Int → Prop} {g : Int → Int → V} (ha : Val ta σ H (.int i)) (hb : Val tb σ H (.int j)) (hc : C i j) : Val (tOp (rI C g) ta tb) σ H (g i j) := val_op ha hb fun Q q => ⟨i, j, rfl, rfl, hc, q⟩
theorem val_U {g : Int → V} (ha : Val ta σ H (.int i)) : Val (tUn (rU g) ta) σ H (g i) := fun Q q => ha _ ⟨i, rfl, q⟩
theorem dI {i j : Int} : decide (V.int i = V.int j) = decide (i = j) := by
  by_cases e : i = j
  · subst e; simp
  · rw [decide_eq_false e, decide_eq_false (fun q => e (V.int.inj q))]
theorem dB {i j : Bool} : decide (V.bl i = V.bl j) = decide (i = j) := by
  by_cases e : i = j
  · subst e; simp
  · rw [decide_eq_false e, decide_eq_false (fun q => e (V.bl.inj q))]
theorem dS {i j : Str} : decide (V.str i = V.str j) = decide (i = j) := by
  by_cases e : i = j
  · subst e; simp
  · rw [decide_eq_false e, decide_eq_false (fun q => e (V.str.inj q))]
theorem val_eqI (ha : Val ta σ H (.int i)) (hb : Val tb σ H (.int j)) : Val (tOp rEq ta tb) σ H (.bl (decide (i = j))) := val_op ha hb fun Q q => ⟨rfl, by rw [dI]; exact q⟩
theorem val_neI (ha : Val ta σ H (.int i)) (hb : Val tb σ H (.int j)) : Val (tOp rNe ta tb) σ H (.bl (!decide (i = j))) := val_op ha hb fun Q q => ⟨rfl, by rw [dI]; exact q⟩
theorem val_eqB (ha : Val ta σ H (.bl b)) (hb : Val tb σ H (.bl c)) : Val (tOp rEq ta tb) σ H (.bl (decide (b = c))) := val_op ha hb fun Q q => ⟨rfl, by rw [dB]; exact q⟩
theorem val_neB (ha : Val ta σ H (.bl b)) (hb : Val tb σ H (.bl c)) : Val (tOp rNe ta tb) σ H (.bl (!decide (b = c))) := val_op ha hb fun Q q => ⟨rfl, by rw [dB]; exact q⟩
theorem val_is {w : V} (h : Val te σ H v) (e : v = w) : Val te σ H w := e ▸ h
theorem ans_is (h : Ans t σ H b) (e : b = c) : Ans t σ H c := e ▸ h
theorem mulC {i j r : Int} (h : Mi.mul i j = some r) : CMul i j ∧ i * j = r := by
  unfold Mi.mul at h
  split at h
  · exact ⟨by assumption, Option.some.inj h⟩
  · cases h
theorem modC {i j r : Int} (h : Mi.mod i j = some r) : 0 < j ∧ i % j = r := by
  unfold Mi.mod at h
  split at h
  · exact ⟨by assumption, Option.some.inj h⟩
  · cases h
theorem divC {i j r : Int} (h : Mi.fdiv i j = some r) : CDivW i j ∧ i / j = r := by
  unfold Mi.fdiv at h
  split at h
  · rename_i hc
    refine ⟨wide_div (b := 200) hc.1 ?_ (by decide) (by decide), Option.some.inj h⟩
    omega
  · cases h
theorem val_mul {r : Int} (ha : Val ta σ H (.int i)) (hb : Val tb σ H (.int j)) (h : Mi.mul i j = some r) : Val (tOp (rI CMul fun i j => .int (i * j)) ta tb) σ H (.int r) := val_is (val_I ha hb (mulC h).1) (by rw [(mulC h).2])
theorem val_mod {r : Int} (ha : Val ta σ H (.int i)) (hb : Val tb σ H (.int j)) (h : Mi.mod i j = some r) : Val (tOp (rI (fun _ j => 0 < j) fun i j => .int (i % j)) ta tb) σ H (.int r) := val_is (val_I ha hb (modC h).1) (by rw [(modC h).2])
theorem val_fdiv {r : Int} (ha : Val ta σ H (.int i)) (hb : Val tb σ H (.int j)) (h : Mi.fdiv i j = some r) : Val (tOp (rI CDivW fun i j => .int (i / j)) ta tb) σ H (.int r) := val_is (val_I ha hb (divC h).1) (by rw [(divC h).2])
theorem ans_t (h : Val te σ H (.bl b)) : Ans (tTest te) σ H b := fun Q q => h _ ⟨b, rfl, q⟩
/-- int(n) -/
def rInt1 : List V → Hp → VK → Prop := fun xs H Q => (∃ i, xs = [.int i] ∧ Q (.int i) H) ∨ ∃ k, xs = [.bl k] ∧ Q (.int (if k then 1 else 0)) H
theorem cl_int {X : Cx} : CallR X (.type "int") rInt1 := call_int1
theorem val_int (ha : Val ta σ H (.int i)) : Val (tCB rInt1 (tCons ta tNil)) σ H (.int i) := fun Q q => ha _ (.inl ⟨i, rfl, q⟩)
def rMax2 : List V → Hp → VK → Prop := fun xs H Q => ∃ i j, xs = [.int i, .int j] ∧ Q (.int (if j > i then j else i)) H
def rMin2 : List V → Hp → VK → Prop := fun xs H Q => ∃ i j, xs = [.int i, .int j] ∧ Q (.int (if j < i then j else i)) H
theorem cl_max2 {X : Cx} (hc : X.calm = true) : CallR X (.builtin "max") rMax2 := call_max2 hc
theorem cl_min2 {X : Cx} (hc : X.calm = true) : CallR X (.builtin "min") rMin2 := call_min2 hc
theorem val_max2 (ha : Val ta σ H (.int i)) (hb : Val tb σ H (.int j)) : Val (tCB rMax2 (tCons ta (tCons tb tNil))) σ H (.int (max i j)) := fun Q q => ha _ (hb _ ⟨i, j, rfl, by
  have e : (if j > i then j else i) = max i j := by split <;> omega
  rw [e]; exact q⟩)
theorem val_min2 (ha : Val ta σ H (.int i)) (hb : Val tb σ H (.int j)) : Val (tCB rMin2 (tCons ta (tCons tb tNil))) σ H (.int (min i j)) := fun Q q => ha _ (hb _ ⟨i, j, rfl, by
  have e : (if j < i then j else i) = min i j := by split <;> omega
  rw [e]; exact q⟩)
/-- len of a list or tuple -/
def rLenQ (K : PySem.W.Frag) : List V → Hp → VK → Prop := fun xs H Q => ∃ p ys, xs = [.ref p] ∧ (SqL K H p ys ∨ SqT K H p ys) ∧ Q (.int ys.length) H
theorem cl_len {X : Cx} {K : PySem.W.Frag} (e : X.K = K := by rfl) : CallR X (.builtin "len") (rLenQ K) := by subst e; exact call_len_seq
theorem lst_sq {xs : List α} (r : (yLst τ).rep K H F v xs) : ∃ a vs, v = .ref a ∧ SqL K H a vs ∧ Paired (fun u x => τ.rep K H [] u x) vs xs := by
  obtain ⟨a, vs, e, f, g, q⟩ := r
  exact ⟨a, vs, e, .inl (.inl g), q⟩
theorem tupl_sq {xs : List α} (r : (yTupL τ).rep K H F v xs) : ∃ a vs, v = .ref a ∧ SqT K H a vs ∧ Paired (fun u x => τ.rep K H [] u x) vs xs := by
  obtain ⟨a, vs, e, f, g, q⟩ := r
  exact ⟨a, vs, e, g, q⟩
theorem scr_sq {xs : List Int} (r : yScr.rep K H F v xs) : ∃ a vs, v = .ref a ∧ SqL K H a vs ∧ Paired (fun u x => yInt.rep K H [] u x) vs xs := by
  obtain ⟨f, a, e, g⟩ := r
  exact ⟨a, _, e, g H fun _ _ h _ => h, ints_mk xs⟩
theorem val_lenL {xs : List α} (r : (yLst τ).rep K H F v xs) (ha : Val ta σ H v) : Val (tCB (rLenQ K) (tCons ta tNil)) σ H (.int (xs.length : Int)) := by
  obtain ⟨a, vs, e, s, q⟩ := lst_sq r
  subst e
  exact fun Q k => ha _ ⟨a, vs, rfl, .inl s, by rw [pr_len q]; exact k⟩
theorem val_lenT {xs : List α} (r : (yTupL τ).rep K H F v xs) (ha : Val ta σ H v) : Val (tCB (rLenQ K) (tCons ta tNil)) σ H (.int (xs.length : Int)) := by
  obtain ⟨a, vs, e, s, q⟩ := tupl_sq r
  subst e
  exact fun Q k => ha _ ⟨a, vs, rfl, .inr s, by rw [pr_len q]; exact k⟩
theorem val_lenS {xs : List Int} (r : yScr.rep K H F v xs) (ha : Val ta σ H v) : Val (tCB (rLenQ K) (tCons ta tNil)) σ H (.int (xs.length : Int)) := by
  obtain ⟨a, vs, e, s, q⟩ := scr_sq r
  subst e
  exact fun Q k => ha _ ⟨a, vs, rfl, .inl s, by rw [pr_len q]; exact k⟩
/-- items -/
theorem ix_l {X : Cx} {K : PySem.W.Frag} (e : X.K = K := by rfl) : IxR X (rIxL K) := by subst e; exact ix_list
theorem ix_t {X : Cx} {K : PySem.W.Frag} (e : X.K = K := by rfl) : IxR X (rIxT K) := by subst e; exact ix_tup
/-- the item's own value, by its data -/
theorem itm_L {xs : List α} {x : α} (r : (yLst τ).rep K H F v xs) (h : Mi.at_ xs i = some x) :
    ∃ u, τ.rep K H [] u x ∧ ∀ {σ : L2.St} {ta tb : TE}, Val ta σ H v → Val tb σ H (.int i) → Val (tOp (rIxL K) ta tb) σ H u := by
  obtain ⟨a, vs, e, s, q⟩ := lst_sq r
  subst e
  obtain ⟨u, e, ru⟩ := pr_at q h
  exact ⟨u, ru, fun ha hb => val_op ha hb fun Q k => ⟨a, vs, i, u, rfl, rfl, s, e, k⟩⟩
theorem itm_T {xs : List α} {x : α} (r : (yTupL τ).rep K H F v xs) (h : Mi.at_ xs i = some x) :
    ∃ u, τ.rep K H [] u x ∧ ∀ {σ : L2.St} {ta tb : TE}, Val ta σ H v → Val tb σ H (.int i) → Val (tOp (rIxT K) ta tb) σ H u := by
  obtain ⟨a, vs, e, s, q⟩ := tupl_sq r
  subst e
  obtain ⟨u, e, ru⟩ := pr_at q h
  exact ⟨u, ru, fun ha hb => val_op ha hb fun Q k => ⟨a, vs, i, u, rfl, rfl, s, e, k⟩⟩
theorem itm_S {xs : List Int} {x : Int} (r : yScr.rep K H F v xs) (h : Mi.at_ xs i = some x) {σ : L2.St} {ta tb : TE} (ha : Val ta σ H v) (hb : Val tb σ H (.int i)) : Val (tOp (rIxL K) ta tb) σ H (.int x) := by
  obtain ⟨a, vs, e, s, q⟩ := scr_sq r
  subst e
  obtain ⟨u, e, ru⟩ := pr_at q h
  obtain ⟨_, rfl⟩ := ru
  exact val_op ha hb fun Q k => ⟨a, vs, i, _, rfl, rfl, s, e, k⟩
/-- ints in lists -/
theorem itm_LI {xs : List Int} {x : Int} (r : (yLst yInt).rep K H F v xs) (h : Mi.at_ xs i = some x) {σ : L2.St} {ta tb : TE} (ha : Val ta σ H v) (hb : Val tb σ H (.int i)) : Val (tOp (rIxL K) ta tb) σ H (.int x) := by
  obtain ⟨u, ⟨_, rfl⟩, k⟩ := itm_L r h
  exact k ha hb
theorem itm_TI {xs : List Int} {x : Int} (r : (yTupL yInt).rep K H F v xs) (h : Mi.at_ xs i = some x) {σ : L2.St} {ta tb : TE} (ha : Val ta σ H v) (hb : Val tb σ H (.int i)) : Val (tOp (rIxT K) ta tb) σ H (.int x) := by
  obtain ⟨u, ⟨_, rfl⟩, k⟩ := itm_T r h
  exact k ha hb
/-! ### isinstance -/
theorem cl_isi {X : Cx} {K : PySem.W.Frag} (e : X.K = K := by rfl) : CallR X (.builtin "isinstance") (rIsi K) := by subst e; exact call_isi
theorem val_isi {n m : String} {b : Bool} (ha : Val ta σ H v) (ht : TyX K H v (.type n)) (h : kitB n m = some b) : Val (tCB (rIsi K) (tCons ta (tCons (tC (.ty m)) tNil))) σ H (.bl b) := fun Q q =>
  ha _ ⟨v, .ty m, .type n, .type m, b, rfl, .ty m, ht, kit_ty h, q⟩
theorem ty_int : TyX K H (.int i) (.type "int") := .base (.int i)
theorem ty_bl : TyX K H (.bl b) (.type "bool") := .base (.bl b)
theorem ty_str {s : Str} : TyX K H (.str s) (.type "str") := .base (.str s)
theorem ty_non : TyX K H .non (.type "NoneType") := .base .non
theorem ty_lst {xs : List α} (r : (yLst τ).rep K H F v xs) : TyX K H v (.type "list") := by
  obtain ⟨a, vs, rfl, f, g, q⟩ := r
  exact .base (.lst g)
theorem ty_sqt {a : Addr} {vs : List V} (s : SqT K H a vs) : TyX K H (.ref a) (.type "tuple") := by
  rcases s with (s | ⟨o, s⟩) | ⟨o, its, n, e, c, _⟩
  · exact .base (.tup s)
  · exact .fTuple s
  · exact .kTuple e c
theorem ty_tupl {xs : List α} (r : (yTupL τ).rep K H F v xs) : TyX K H v (.type "tuple") := by
  obtain ⟨a, vs, rfl, s, q⟩ := tupl_sq r
  exact ty_sqt s
theorem ty_tup {ts : Tys α} {d : α} (r : (yTup ts).rep K H F v d) : TyX K H v (.type "tuple") := by
  obtain ⟨a, vs, rfl, s, q⟩ := r
  exact ty_sqt s
end vals
/-! ### going on behind an expression -/
section cps
variable {K : PySem.W.Frag} {σ σ' : L2.St} {H : Hp} {F : List Addr} {ta tb te : TE} {v u x y : V} {i j : Int} {t : TT} {b c : Bool} {α β : Type} {τ : Ty α} {Q : VK} {D : Ends} {t1 t2 : TS}
theorem c_val (h : Val te σ H v) (k : Q v H) : te σ H Q := h Q k
theorem c_ans {Q : Bool → Hp → Prop} (h : Ans t σ H b) (k : Q b H) : t σ H Q := h Q k
theorem c_if {A B : Prop} (h1 : b = true → A) (h2 : b = false → B) : if b = true then A else B := by
  cases b with
  | true => exact iteT (h1 rfl)
  | false => exact iteF (h2 rfl)
theorem s_if (h : Ans t σ H b) (h1 : b = true → t1 D σ H) (h2 : b = false → t2 D σ H) : tIfS t t1 t2 D σ H := h _ (c_if h1 h2)
/-- x = e -/
theorem s_set {i : Nat} (h : Val te σ H v) (e : σ.set i (some v) = σ') (k : D.nx σ' H) : tAsg te (gName i) D σ H := h _ (by show D.nx (σ.set i (some v)) H; rw [e]; exact k)
theorem s_setI {i : Nat} {n m : Int} (h : Val te σ H (.int n)) (en : n = m) (e : σ.set i (some (.int m)) = σ') (k : D.nx σ' H) : tAsg te (gName i) D σ H := s_set (v := .int m) (en ▸ h) e k
theorem s_seq (h : t1 { D with nx := t2 D } σ H) : tSeq t1 t2 D σ H := h
/-- a join: R is what holds where the ways come together -/
theorem s_join {R : L2.St → Hp → Prop} (w : ∀ nx : L2.St → Hp → Prop, (∀ σ' H', R σ' H' → nx σ' H') → t1 { D with nx := nx } σ H) (k : ∀ σ' H', R σ' H' → t2 D σ' H') : tSeq t1 t2 D σ H := w _ k
theorem g_name {i : Nat} {Q : L2.St → Hp → Prop} (e : σ.set i (some v) = σ') (k : Q σ' H) : gName i v σ H Q := by show Q (σ.set i (some v)) H; rw [e]; exact k
theorem g_nameI {i : Nat} {n m : Int} {Q : L2.St → Hp → Prop} (en : n = m) (e : σ.set i (some (.int m)) = σ') (k : Q σ' H) : gName i (.int n) σ H Q := g_name (v := .int n) (by rw [en]; exact e) k
/-- a list, a tuple is made -/
theorem sz {n : Nat} (h : n ≤ Mi.big) : n ≤ sizeLine := Nat.le_trans h line_big
theorem c_lst {ts : TA} (h : ts σ H fun xs H1 => xs.length ≤ Mi.big ∧ ∀ p, H1 p = none → Q (.ref p) (upd H1 p (.lst xs))) (mono : ∀ Q Q' : List V → Hp → Prop, (∀ xs H1, Q xs H1 → Q' xs H1) → ts σ H Q → ts σ H Q') : L2.tLst ts σ H Q := mono _ _ (fun xs H1 z => ⟨sz z.1, z.2⟩) h
/-- values of arguments -/
def VaA (t : TA) (σ : L2.St) (H : Hp) (vs : List V) : Prop := ∀ Q : List V → Hp → Prop, Q vs H → t σ H Q
theorem va_nil : VaA tNil σ H [] := fun Q q => q
theorem va_cons {tr : TA} {vs : List V} (h : Val ta σ H v) (r : VaA tr σ H vs) : VaA (tCons ta tr) σ H (v :: vs) := fun Q q => h _ (r _ q)
theorem n_lst {ts : TA} {vs : List V} {xs : List α} (h : VaA ts σ H vs) (z : vs.length ≤ Mi.big) (r : Paired (fun u x => τ.rep K H [] u x) vs xs)
    (k : ∀ p H', H p = none → Chg [] H H' → (yLst τ).rep K H' [p] (.ref p) xs → Q (.ref p) H') : L2.tLst ts σ H Q := h _ ⟨sz z, fun p np => k p _ np (Chg.new np)
      ⟨p, vs, rfl, rfl, upd_same, Paired.mapP r fun u x q => Ty.ex q (Chg.new np)⟩⟩
theorem n_tup {ts : TA} {ty : Tys α} {vs : List V} {d : α} {F : List Addr} (h : VaA ts σ H vs) (z : vs.length ≤ Mi.big) (r : ty.rep K H F vs d)
    (k : ∀ p H', H p = none → Chg [] H H' → (yTup ty).rep K H' F (.ref p) d → Q (.ref p) H') : L2.tTup ts σ H Q := h _ ⟨sz z, fun p np => k p _ np (Chg.new np)
      ⟨p, vs, rfl, .inl (.inl upd_same), ty.keep r fun b o e _ => by rw [upd_ne (ne_of_none e np)]; exact e⟩⟩
/-- xs.append(e) -/
theorem m_app {xs ys : List α} {d : α} (r : (yLst τ).rep K H F v xs) (ru : τ.rep K H [] u d) (hm : Mi.app xs d = some ys) (k : ∀ H', Chg F H H' → (yLst τ).rep K H' F v ys → Q .non H') : rAppend v [u] H Q := by
  obtain ⟨p, vs, rfl, rfl, g, q⟩ := r
  unfold Mi.app at hm
  split at hm
  · rename_i hz
    cases hm
    have c : Chg [p] H (upd H p (.lst (vs ++ [u]))) := Chg.wr g (fun z => z)
    refine ⟨p, vs, u, rfl, rfl, g, Nat.lt_of_lt_of_le (by rw [pr_len q]; exact hz) line_big, k _ c ⟨p, _, rfl, rfl, upd_same, ?_⟩⟩
    exact pr_app (Paired.mapP q fun _ _ z => Ty.fz z c) (.cons (Ty.fz ru c) .nil)
  · cases hm
/-- xs[i] = e -/
theorem m_set {xs ys : List α} {d : α} {Q : Hp → Prop} (r : (yLst τ).rep K H F v xs) (ru : τ.rep K H [] u d) (hm : Mi.setAt xs i d = some ys) (k : ∀ H', Chg F H H' → (yLst τ).rep K H' F v ys → Q H') : rSetL v (.int i) u H Q := by
  obtain ⟨p, vs, rfl, rfl, g, q⟩ := r
  unfold Mi.setAt at hm
  obtain ⟨j, e, hm⟩ := Mi.bnd hm
  cases hm
  have c : Chg [p] H (upd H p (.lst (vs.set j u))) := Chg.wr g (fun z => z)
  refine ⟨p, vs, i, j, rfl, rfl, g, by rw [pr_len q]; exact e, k _ c ⟨p, _, rfl, rfl, upd_same, ?_⟩⟩
  exact pr_set (Ty.fz ru c) j (Paired.mapP q fun _ _ z => Ty.fz z c)
end cps
end G

namespace G
open PySem PySem.Spec PyProof.Rows L2
/-- the built-in names that the program leaves as they are -/
structure Bi (mg : Str → Option Value) : Prop where
  len : mg "len" = none
  range : mg "range" = none
  int : mg "int" = none
  bool : mg "bool" = none
  isinstance : mg "isinstance" = none
  max : mg "max" = none
  min : mg "min" = none
  list : mg "list" = none
  tuple : mg "tuple" = none
  sorted : mg "sorted" = none
  set : mg "set" = none
  enumerate : mg "enumerate" = none
  zip : mg "zip" = none
  reversed : mg "reversed" = none
  sum : mg "sum" = none
  any : mg "any" = none
  all : mg "all" = none
  str : mg "str" = none
/-- a def of the text stands under its name -/
structure Dfn (K : PySem.W.Frag) (mg : Str → Option Value) (x : Str) (st : Stmt) : Prop where
  ex : ∃ f fd, Fun K x x st f fd ∧ mg x = some (.ref f)
/-- a def may be called by its name and keeps its promise -/
structure Cal (P : Program) (w : World) (K : PySem.W.Frag) (mg : Str → Option Value) (x : Str) (ps : List Str) (k : Nat) (sp : Sp) : Prop where
  ex : ∃ f fd, mg x = some (.ref f) ∧ PySem.W.keepIn K (.ref f) = true ∧ (∀ (s : Shared) (us : List Value), us.length = ps.length → BindsTo s fd ⟨us, []⟩ (ps.zip us)) ∧ ∀ base : Heap, FnOk P w K mg base CX0 k f fd ps sp
theorem pe_cc {X : Cx} {x : Str} {ps : List Str} {j k : Nat} {sp : Sp} {p pos : Pos} {e : Expr} {es : List Expr} {t : TA} (C : Cal X.prog X.w X.K X.mg x ps j sp) (hr : Room k X.A) (ha : PA X (e :: es) t) (hj : j ≤ k := by decide) (hg : Gl X x := by rfl)
    (hd : (x == ("__debug__" : Str)) = false := by decide) (he : starEach (e :: es) X.env = (false, eval e X.env) :: starEach es X.env := by rfl)
    (hpl : (backTo pos (starEach es X.env)).any (·.1) = false := by rfl) :
    PE X (.Call (.Name x p) (e :: es) [] pos) (tCall sp [] E0 t) := by
  obtain ⟨f, fd, g, kp, b, F⟩ := C.ex
  exact pe_call (F X.base) (hr.mono hj) hg g kp (fun s us _ hl => by rw [List.append_nil] at hl ⊢; exact b s us hl) .nil pass0 ha hd he hpl
theorem bindsF {K : PySem.W.Frag} {x qual : Str} {st : Stmt} {f : Addr} {fd : FuncData} {ps : List Str} (F : Fun K x qual st f fd)
    (h : ∀ (kV doc pm : Value) (an : Option Addr) (cdv ct : Value) (us : List Value), us.length = ps.length → bindArgs (PySem.W.fnOf x qual (defArgs st) (defBody st) (defScope st) .none kV doc pm an cdv ct) ⟨us, []⟩ = pure (ps.zip us)) (s : Shared) (us : List Value) (hl : us.length = ps.length) : BindsTo s fd ⟨us, []⟩ (ps.zip us) := by
  obtain ⟨oc, od, kV, doc, pm, an, cdv, ct, osl, rfl, lk, hcd⟩ := F.ex
  exact .of_eq (h kV doc pm an cdv ct us hl)
end G

namespace G
open PySem PySem.Spec PyProof.Rows L2
section
variable {K : PySem.W.Frag} {σ σ' : L2.St} {H : Hp} {F : List Addr} {ta tb te : TE} {v u x y : V} {i j : Int} {t tu : TT} {b c a : Bool} {α β : Type} {τ : Ty α} {Q : VK} {D : Ends} {t1 t2 : TS}
theorem val_add (ha : Val ta σ H (.int i)) (hb : Val tb σ H (.int j)) : Val (tOp (rI0 fun i j => .int (i + j)) ta tb) σ H (.int (i + j)) := val_I0 ha hb
theorem val_sub (ha : Val ta σ H (.int i)) (hb : Val tb σ H (.int j)) : Val (tOp (rI0 fun i j => .int (i - j)) ta tb) σ H (.int (i - j)) := val_I0 ha hb
theorem val_lt (ha : Val ta σ H (.int i)) (hb : Val tb σ H (.int j)) : Val (tOp (rI0 fun i j => .bl (decide (i < j))) ta tb) σ H (.bl (decide (i < j))) := val_I0 (g := fun i j => .bl (decide (i < j))) ha hb
theorem val_le (ha : Val ta σ H (.int i)) (hb : Val tb σ H (.int j)) : Val (tOp (rI0 fun i j => .bl (decide (i ≤ j))) ta tb) σ H (.bl (decide (i ≤ j))) := val_I0 (g := fun i j => .bl (decide (i ≤ j))) ha hb
theorem val_gt (ha : Val ta σ H (.int i)) (hb : Val tb σ H (.int j)) : Val (tOp (rI0 fun i j => .bl (decide (j < i))) ta tb) σ H (.bl (decide (j < i))) := val_I0 (g := fun i j => .bl (decide (j < i))) ha hb
theorem val_ge (ha : Val ta σ H (.int i)) (hb : Val tb σ H (.int j)) : Val (tOp (rI0 fun i j => .bl (decide (j ≤ i))) ta tb) σ H (.bl (decide (j ≤ i))) := val_I0 (g := fun i j => .bl (decide (j ≤ i))) ha hb
theorem val_neg (ha : Val ta σ H (.int i)) : Val (tUn (rU fun i => .int (-i)) ta) σ H (.int (-i)) := val_U (g := fun i => .int (-i)) ha
theorem val_mulL (ha : Val ta σ H (.int i)) (hb : Val tb σ H (.int j)) (h : -(2 ^ 64) < i ∧ i < 2 ^ 64) : Val (tOp (rI CMul fun i j => .int (i * j)) ta tb) σ H (.int (i * j)) := val_I (g := fun i j => .int (i * j)) ha hb (.inl h)
theorem val_mulR (ha : Val ta σ H (.int i)) (hb : Val tb σ H (.int j)) (h : -(2 ^ 64) < j ∧ j < 2 ^ 64) : Val (tOp (rI CMul fun i j => .int (i * j)) ta tb) σ H (.int (i * j)) := val_I (g := fun i j => .int (i * j)) ha hb (.inr h)
theorem val_modc (ha : Val ta σ H (.int i)) (hb : Val tb σ H (.int j)) (h : 0 < j) : Val (tOp (rI (fun _ j => 0 < j) fun i j => .int (i % j)) ta tb) σ H (.int (i % j)) := val_I (g := fun i j => .int (i % j)) ha hb h
theorem val_divc (ha : Val ta σ H (.int i)) (hb : Val tb σ H (.int j)) (h : CDiv i j) : Val (tOp (rI CDiv fun i j => .int (i / j)) ta tb) σ H (.int (i / j)) := val_I (g := fun i j => .int (i / j)) ha hb h
theorem val_pow {n : Nat} (ha : Val ta σ H (.int i)) (hb : Val tb σ H (.int j)) (e : j = (n : Int)) (hn : n ≤ 1000000) (h : i.natAbs < 2 ^ 64) : Val (tOp (rI CPow fun i j => .int (i ^ j.toNat)) ta tb) σ H (.int (i ^ n)) := by
  subst e
  exact val_I (g := fun i j => .int (i ^ j.toNat)) ha hb ⟨by omega, by omega, h⟩
theorem val_shl {n : Nat} (ha : Val ta σ H (.int i)) (hb : Val tb σ H (.int j)) (h : CPow i j) : Val (tOp (rI CPow fun i j => .int (i * 2 ^ j.toNat)) ta tb) σ H (.int (i * 2 ^ j.toNat)) := val_I (g := fun i j => .int (i * 2 ^ j.toNat)) ha hb h
theorem val_shr (ha : Val ta σ H (.int i)) (hb : Val tb σ H (.int j)) (h : 0 ≤ j) : Val (tOp (rI (fun _ j => 0 ≤ j) fun i j => .int (i / 2 ^ j.toNat)) ta tb) σ H (.int (i / 2 ^ j.toNat)) := val_I (g := fun i j => .int (i / 2 ^ j.toNat)) ha hb h
theorem ans_B (h : Val te σ H (.bl b)) : Ans (tB te) σ H b := ans_val h
theorem ans_N (h : Ans t σ H b) : Ans (tNot t) σ H (!b) := ans_not h
theorem ans_andB (h1 : Ans t σ H a) (h2 : a = true → Ans tu σ H b) : Ans (tAnd t tu) σ H (a && b) := by
  cases a with
  | true => exact ans_and h1 (h2 rfl)
  | false => exact ans_and0 h1
theorem ans_orB (h1 : Ans t σ H a) (h2 : a = false → Ans tu σ H b) : Ans (tOr t tu) σ H (a || b) := by
  cases a with
  | true => exact ans_or1 h1
  | false => exact ans_or h1 (h2 rfl)
theorem ans_andO {m : Option Bool} (h1 : Ans t σ H a) (hc : (if a = true then m else some false) = some c) (h2 : m = some c → Ans tu σ H c) : Ans (tAnd t tu) σ H c := by
  cases a with
  | true => exact ans_and h1 (h2 hc)
  | false => cases hc; exact ans_and0 h1
theorem ans_orO {m : Option Bool} (h1 : Ans t σ H a) (hc : (if a = true then some true else m) = some c) (h2 : m = some c → Ans tu σ H c) : Ans (tOr t tu) σ H c := by
  cases a with
  | true => cases hc; exact ans_or1 h1
  | false => exact ans_or h1 (h2 hc)
theorem val_notV (h : Val ta σ H (.bl a)) : Val (tNotV ta) σ H (.bl (!a)) := fun Q q => h _ ⟨a, rfl, q⟩
theorem val_andV (h1 : Val ta σ H (.bl a)) (h2 : a = true → Val tb σ H (.bl b)) : Val (tAndV ta tb) σ H (.bl (a && b)) := fun Q q => h1 _ ⟨a, rfl, by
  cases a with
  | true => exact iteT (h2 rfl Q q)
  | false => exact iteF q⟩
theorem val_orV (h1 : Val ta σ H (.bl a)) (h2 : a = false → Val tb σ H (.bl b)) : Val (tOrV ta tb) σ H (.bl (a || b)) := fun Q q => h1 _ ⟨a, rfl, by
  cases a with
  | true => exact iteT q
  | false => exact iteF (h2 rfl Q q)⟩
theorem val_andVO {m : Option Bool} (h1 : Val ta σ H (.bl a)) (hc : (if a = true then m else some false) = some c) (h2 : m = some c → Val tb σ H (.bl c)) : Val (tAndV ta tb) σ H (.bl c) := fun Q q => h1 _ ⟨a, rfl, by
  cases a with
  | true => exact iteT (h2 hc Q q)
  | false => cases hc; exact iteF q⟩
theorem val_orVO {m : Option Bool} (h1 : Val ta σ H (.bl a)) (hc : (if a = true then some true else m) = some c) (h2 : m = some c → Val tb σ H (.bl c)) : Val (tOrV ta tb) σ H (.bl c) := fun Q q => h1 _ ⟨a, rfl, by
  cases a with
  | true => cases hc; exact iteT q
  | false => exact iteF (h2 hc Q q)⟩
/-! ### readings taken apart -/
theorem w_op {r : R2} (h : ta σ H fun x H1 => tb σ H1 fun y H2 => r x y H2 Q) : tOp r ta tb σ H Q := h
theorem w_un {r : V → Hp → VK → Prop} (h : ta σ H fun x H1 => r x H1 Q) : tUn r ta σ H Q := h
theorem w_cb {r : List V → Hp → VK → Prop} {ts : TA} (h : ts σ H fun vs H1 => r vs H1 Q) : tCB r ts σ H Q := h
theorem w_call {sp : Sp} {dvs : List V} {E : XK} {ts : TA} (h : ts σ H fun vs H1 => sp (vs ++ dvs) H1 Q E) : tCall sp dvs E ts σ H Q := h
theorem w_cons {tr : TA} {Q : List V → Hp → Prop} (h : ta σ H fun x H1 => tr σ H1 fun xs H2 => Q (x :: xs) H2) : tCons ta tr σ H Q := h
theorem w_nil {Q : List V → Hp → Prop} (h : Q [] H) : tNil σ H Q := h
theorem w_args {ts : TA} {vs : List V} {Q : List V → Hp → Prop} (h : VaA ts σ H vs) (k : Q vs H) : ts σ H Q := h Q k
def LstG (xs : List V) (H : Hp) (Q : VK) : Prop := xs.length ≤ sizeLine ∧ ∀ p, H p = none → Q (.ref p) (upd H p (.lst xs))
def TupG (xs : List V) (H : Hp) (Q : VK) : Prop := xs.length ≤ sizeLine ∧ ∀ p, H p = none → Q (.ref p) (upd H p (.tup xs))
theorem w_lst {ts : TA} (h : ts σ H fun xs H1 => LstG xs H1 Q) : L2.tLst ts σ H Q := h
theorem w_tup {ts : TA} (h : ts σ H fun xs H1 => TupG xs H1 Q) : L2.tTup ts σ H Q := h
theorem w_test {Q : Bool → Hp → Prop} (h : te σ H fun x H' => ∃ k, x = .bl k ∧ Q k H') : tTest te σ H Q := h
theorem w_B {Q : Bool → Hp → Prop} (h : te σ H fun x H' => ∃ k, x = .bl k ∧ Q k H') : tB te σ H Q := h
theorem w_bl {Q : Bool → Hp → Prop} (k : Q b H) : ∃ k, V.bl b = .bl k ∧ Q k H := ⟨b, rfl, k⟩
theorem w_not {Q : Bool → Hp → Prop} (h : t σ H fun c H1 => Q (!c) H1) : tNot t σ H Q := h
theorem w_and {Q : Bool → Hp → Prop} (h : t σ H fun c H1 => if c = true then tu σ H1 Q else Q false H1) : tAnd t tu σ H Q := h
theorem w_or {Q : Bool → Hp → Prop} (h : t σ H fun c H1 => if c = true then Q true H1 else tu σ H1 Q) : tOr t tu σ H Q := h
theorem w_andV (h : ta σ H fun x H1 => ∃ c, x = .bl c ∧ if c = true then tb σ H1 Q else Q (.bl false) H1) : tAndV ta tb σ H Q := h
theorem w_orV (h : ta σ H fun x H1 => ∃ c, x = .bl c ∧ if c = true then Q (.bl true) H1 else tb σ H1 Q) : tOrV ta tb σ H Q := h
theorem w_notV (h : ta σ H fun x H1 => ∃ c, x = .bl c ∧ Q (.bl (!c)) H1) : tNotV ta σ H Q := h
theorem w_blV {P : Bool → Prop} (k : P b) : ∃ k, V.bl b = .bl k ∧ P k := ⟨b, rfl, k⟩
theorem w_I0 {g : Int → Int → V} (k : Q (g i j) H) : rI0 g (.int i) (.int j) H Q := ⟨i, j, rfl, rfl, k⟩
theorem w_I {C : Int → Int → Prop} {g : Int → Int → V} (hc : C i j) (k : Q (g i j) H) : rI C g (.int i) (.int j) H Q := ⟨i, j, rfl, rfl, hc, k⟩
theorem w_U {g : Int → V} (k : Q (g i) H) : rU g (.int i) H Q := ⟨i, rfl, k⟩
theorem w_mul {r : Int} (h : Mi.mul i j = some r) (k : Q (.int r) H) : rI CMul (fun i j => .int (i * j)) (.int i) (.int j) H Q := ⟨i, j, rfl, rfl, (mulC h).1, by show Q (.int (i * j)) H; rw [(mulC h).2]; exact k⟩
theorem w_mod {r : Int} (h : Mi.mod i j = some r) (k : Q (.int r) H) : rI (fun _ j => 0 < j) (fun i j => .int (i % j)) (.int i) (.int j) H Q := ⟨i, j, rfl, rfl, (modC h).1, by show Q (.int (i % j)) H; rw [(modC h).2]; exact k⟩
theorem w_fdiv {r : Int} (h : Mi.fdiv i j = some r) (k : Q (.int r) H) : rI CDivW (fun i j => .int (i / j)) (.int i) (.int j) H Q := ⟨i, j, rfl, rfl, (divC h).1, by show Q (.int (i / j)) H; rw [(divC h).2]; exact k⟩
theorem w_eqI (k : Q (.bl (decide (i = j))) H) : rEq (.int i) (.int j) H Q := ⟨rfl, by rw [dI]; exact k⟩
theorem w_neI (k : Q (.bl (!decide (i = j))) H) : rNe (.int i) (.int j) H Q := ⟨rfl, by rw [dI]; exact k⟩
theorem w_eqB (k : Q (.bl (decide (b = c))) H) : rEq (.bl b) (.bl c) H Q := ⟨rfl, by rw [dB]; exact k⟩
theorem w_neB (k : Q (.bl (!decide (b = c))) H) : rNe (.bl b) (.bl c) H Q := ⟨rfl, by rw [dB]; exact k⟩
theorem w_int (k : Q (.int i) H) : rInt1 [.int i] H Q := .inl ⟨i, rfl, k⟩
theorem w_max2 (k : Q (.int (max i j)) H) : rMax2 [.int i, .int j] H Q := ⟨i, j, rfl, by
  have e : (if j > i then j else i) = max i j := by split <;> omega
  rw [e]; exact k⟩
theorem w_min2 (k : Q (.int (min i j)) H) : rMin2 [.int i, .int j] H Q := ⟨i, j, rfl, by
  have e : (if j < i then j else i) = min i j := by split <;> omega
  rw [e]; exact k⟩
theorem w_lenL {xs : List α} (r : (yLst τ).rep K H F v xs) (k : Q (.int (xs.length : Int)) H) : rLenQ K [v] H Q := by
  obtain ⟨a, vs, e, s, q⟩ := lst_sq r
  subst e
  exact ⟨a, vs, rfl, .inl s, by rw [pr_len q]; exact k⟩
theorem w_lenT {xs : List α} (r : (yTupL τ).rep K H F v xs) (k : Q (.int (xs.length : Int)) H) : rLenQ K [v] H Q := by
  obtain ⟨a, vs, e, s, q⟩ := tupl_sq r
  subst e
  exact ⟨a, vs, rfl, .inr s, by rw [pr_len q]; exact k⟩
theorem w_ixL {xs : List α} {x : α} (r : (yLst τ).rep K H F v xs) (h : Mi.at_ xs i = some x) (k : ∀ u, τ.rep K H [] u x → Q u H) : rIxL K v (.int i) H Q := by
  obtain ⟨a, vs, e, s, q⟩ := lst_sq r
  subst e
  obtain ⟨u, e, ru⟩ := pr_at q h
  exact ⟨a, vs, i, u, rfl, rfl, s, e, k u ru⟩
theorem w_ixT {xs : List α} {x : α} (r : (yTupL τ).rep K H F v xs) (h : Mi.at_ xs i = some x) (k : ∀ u, τ.rep K H [] u x → Q u H) : rIxT K v (.int i) H Q := by
  obtain ⟨a, vs, e, s, q⟩ := tupl_sq r
  subst e
  obtain ⟨u, e, ru⟩ := pr_at q h
  exact ⟨a, vs, i, u, rfl, rfl, s, e, k u ru⟩
theorem e_lst {vs : List V} {xs : List α} (z : vs.length ≤ Mi.big) (r : Paired (fun u x => τ.rep K H [] u x) vs xs) (k : ∀ p H', H p = none → Chg [] H H' → (yLst τ).rep K H' [p] (.ref p) xs → Q (.ref p) H') :
    LstG vs H Q := ⟨sz z, fun p np => k p _ np (Chg.new np)
      ⟨p, vs, rfl, rfl, upd_same, Paired.mapP r fun u x q => Ty.ex q (Chg.new np)⟩⟩
theorem e_tup {ty : Tys α} {vs : List V} {d : α} {F : List Addr} (z : vs.length ≤ Mi.big) (r : ty.rep K H F vs d) (k : ∀ p H', H p = none → Chg [] H H' → (yTup ty).rep K H' F (.ref p) d → Q (.ref p) H') :
    TupG vs H Q := ⟨sz z, fun p np => k p _ np (Chg.new np)
      ⟨p, vs, rfl, .inl (.inl upd_same), ty.keep r fun b o e _ => by rw [upd_ne (ne_of_none e np)]; exact e⟩⟩
/-! ### statements -/
theorem w_asg {g : TG} (h : te σ H fun x H1 => g x σ H1 D.nx) : tAsg te g D σ H := h
theorem w_drop (h : te σ H fun _ H1 => D.nx σ H1) : tDrop te D σ H := h
theorem w_ret (h : te σ H D.rt) : tRet te D σ H := h
theorem w_retN (h : D.rt .non H) : tRetN D σ H := h
theorem w_next (h : D.nx σ H) : tNext D σ H := h
theorem w_cont (h : D.ct σ H) : tCont D σ H := h
theorem w_break (h : D.bk σ H) : tBreak D σ H := h
theorem w_ifS (h : t σ H fun b H1 => if b = true then t1 D σ H1 else t2 D σ H1) : tIfS t t1 t2 D σ H := h
theorem w_ifE (h : t σ H fun c H1 => if c = true then ta σ H1 Q else tb σ H1 Q) : tIf t ta tb σ H Q := h
theorem w_gsub {to ti : TE} {ts : TSet} {Q : L2.St → Hp → Prop} (h : to σ H fun o H1 => ti σ H1 fun i H2 => ts o i v H2 fun H3 => Q σ H3) : gSub to ti ts v σ H Q := h
theorem w_bm {T : String} {r : V → List V → Hp → VK → Prop} {to : TE} {ts : TA} (h : to σ H fun x H1 => tyV K T x H1 ∧ ts σ H1 fun xs H2 => r x xs H2 Q) : tBM K T r to ts σ H Q := h
theorem w_bm0 {T : String} {r : V → List V → Hp → VK → Prop} {to : TE} (h : to σ H fun x H1 => tyV K T x H1 ∧ r x [] H1 Q) : tBM0 K T r to σ H Q := h
theorem tyv_lst {xs : List α} (r : (yLst τ).rep K H F v xs) : tyV K "list" v H := by
  obtain ⟨a, vs, rfl, s, q⟩ := lst_sq r
  exact .inl ⟨rfl, _, s⟩
/-- a join of tests -/
theorem j_tt {R : Hp → Prop} {Q : Bool → Hp → Prop} (c : Bool) (w : ∀ Q' : Bool → Hp → Prop, (∀ H', R H' → Q' c H') → t σ H Q') (k : ∀ H', R H' → Q c H') : t σ H Q := w Q k
theorem j_te {R : Hp → Prop} (x : V) (w : ∀ Q' : VK, (∀ H', R H' → Q' x H') → te σ H Q') (k : ∀ H', R H' → Q x H') : te σ H Q := w Q k
/-! ### statements with what follows -/
theorem q_asg {g : TG} (h : te σ H fun x H1 => g x σ H1 (t2 D)) : tSeq (tAsg te g) t2 D σ H := h
theorem q_setE {k : Nat} {w : V} (h : Val te σ H v) (ev : v = w) (e : σ.set k (some w) = σ') (q : t2 D σ' H) : tSeq (tAsg te (gName k)) t2 D σ H := by
  subst ev
  exact h _ (by show t2 D (σ.set k (some v)) H; rw [e]; exact q)
theorem q_drop (h : te σ H fun _ H1 => t2 D σ H1) : tSeq (tDrop te) t2 D σ H := h
theorem q_ret (h : te σ H D.rt) : tSeq (tRet te) t2 D σ H := h
theorem q_retN (h : D.rt .non H) : tSeq tRetN t2 D σ H := h
theorem q_pass (h : t2 D σ H) : tSeq tNext t2 D σ H := h
theorem q_cont (h : D.ct σ H) : tSeq tCont t2 D σ H := h
theorem q_brk (h : D.bk σ H) : tSeq tBreak t2 D σ H := h
theorem q_if {t3 : TS} (h : Ans t σ H b) (h1 : b = true → t1 { D with nx := t2 D } σ H) (h2 : b = false → t3 { D with nx := t2 D } σ H) : tSeq (tIfS t t1 t3) t2 D σ H := h _ (c_if h1 h2)
theorem q_ifS {t3 : TS} (h : t σ H fun b H1 => if b = true then t1 { D with nx := t2 D } σ H1 else t3 { D with nx := t2 D } σ H1) : tSeq (tIfS t t1 t3) t2 D σ H := h
theorem w_fall (h : t2 D σ H) : tNext { D with nx := t2 D } σ H := h
theorem w_nextJ {nx bk ct : L2.St → Hp → Prop} {rt : VK} (h : nx σ H) : tNext (Ends.mk nx rt bk ct) σ H := h
theorem q_aug {k : Nat} {f : Int → Int → Int} {m n p : Int} (hx : σ[k]? = some (some (.int m))) (h : Val te σ H (.int n)) (en : f m n = p) (e : σ.set k (some (.int p)) = σ') (q : t2 D σ' H) : tSeq (tAug k te (ipI f)) t2 D σ H :=
  ⟨_, hx, h _ ⟨m, n, rfl, rfl, by rw [en]; show t2 D (List.set σ k (some (.int p))) H; rw [e]; exact q⟩⟩
/-! ### loops -/
def LoopG (J : It) (g : TG) (tb : TS) (D : Ends) (nx : L2.St → Hp → Prop) (σ : L2.St) (H : Hp) : Prop := ∃ W : Nat → Nat → L2.St → Hp → Prop, (∃ m, W 0 m σ H) ∧ ∀ i m σ H, W i m σ H →
  (J.stop i H ∧ nx σ H) ∨ (J.go i H ∧ ∃ N : L2.St → Hp → Prop, (∀ σ' H', N σ' H' → ∃ m', m' < m ∧ W (i + 1) m' σ' H') ∧ ∀ x H', J.yld i H x H' → g x σ H' fun σ2 H2 => tb { D with nx := N, ct := N, bk := nx } σ2 H2)
theorem q_for {wi : TI} {g : TG} {tb : TS} (h : wi σ H fun J H1 => LoopG J g tb D (t2 D) σ H1) : tSeq (tFor wi g tb) t2 D σ H := h
theorem w_iList {tl : TE} {R : It → Hp → Prop} (h : tl σ H fun x H1 => ∃ a, x = .ref a ∧ (∃ xs, SqL K H1 a xs) ∧ R (Itl K a) H1) : iList K tl σ H R := h
theorem w_iTup {tl : TE} {R : It → Hp → Prop} (h : tl σ H fun x H1 => ∃ a, x = .ref a ∧ (∃ xs, SqT K H1 a xs) ∧ R (Itt K a) H1) : iTup K tl σ H R := h
theorem w_iRng1 {ts : TA} {R : It → Hp → Prop} (h : ts σ H fun vs H1 => ∃ j : Int, vs = [.int j] ∧ -(2 ^ 62) ≤ j ∧ j < 2 ^ 62 ∧ R (Itr 0 j.toNat) H1) : iRng1 ts σ H R := h
theorem w_iRng2 {ts : TA} {R : It → Hp → Prop} (h : ts σ H fun vs H1 => ∃ i j : Int, vs = [.int i, .int j] ∧ (-(2 ^ 62) ≤ i ∧ i < 2 ^ 62 ∧ -(2 ^ 62) ≤ j ∧ j < 2 ^ 62) ∧ R (Itr i (j - i).toNat) H1) : iRng2 ts σ H R := h
theorem rngO_some {lo hi : Int} {g : List Int} (h : Mi.rngO lo hi = some g) : g = Mi.rng lo hi ∧ (-(2 ^ 60) ≤ lo ∧ lo < 2 ^ 60) ∧ (-(2 ^ 60) ≤ hi ∧ hi < 2 ^ 60) := by
  unfold Mi.rngO at h
  split at h
  · rename_i c
    exact ⟨(Option.some.inj h).symm, c⟩
  · cases h
theorem rng_len (lo hi : Int) : (Mi.rng lo hi).length = (hi - lo).toNat := by unfold Mi.rng; rw [List.length_map, List.length_range]
theorem rng_at {lo hi : Int} {i : Nat} (h : i < (hi - lo).toNat) : (Mi.rng lo hi)[i]? = some (lo + i) := by
  unfold Mi.rng
  rw [List.getElem?_map, List.getElem?_range h]
  rfl
theorem l_rng {g : TG} {tb : TS} {nx : L2.St → Hp → Prop} {lo hi : Int} (Pv : Nat → L2.St → Hp → Prop) (h0 : Pv 0 σ H)
    (hs : ∀ (i : Nat) (x : Int) σ' H', (Mi.rng lo hi)[i]? = some x → Pv i σ' H' → g (.int x) σ' H' fun σ2 H2 => tb { D with nx := Pv (i + 1), ct := Pv (i + 1), bk := nx } σ2 H2) (hd : ∀ σ' H', Pv (Mi.rng lo hi).length σ' H' → nx σ' H') :
    LoopG (Itr lo (hi - lo).toNat) g tb D nx σ H := for_range (D := { D with nx := nx }) (lo := lo) (n := (hi - lo).toNat) Pv h0 (fun i σ' H' hi' p => hs i _ σ' H' (rng_at hi') p) (fun σ' H' p => hd σ' H' (by rw [rng_len]; exact p))
theorem l_rng1 {g : TG} {tb : TS} {nx : L2.St → Hp → Prop} {hi : Int} {xs : List Int} (hg : Mi.rngO 0 hi = some xs) (Pv : Nat → L2.St → Hp → Prop) (h0 : Pv 0 σ H)
    (hs : ∀ (i : Nat) (x : Int) σ' H', xs[i]? = some x → Pv i σ' H' → g (.int x) σ' H' fun σ2 H2 => tb { D with nx := Pv (i + 1), ct := Pv (i + 1), bk := nx } σ2 H2) (hd : ∀ σ' H', Pv xs.length σ' H' → nx σ' H') :
    ∃ j : Int, [V.int hi] = [.int j] ∧ -(2 ^ 62) ≤ j ∧ j < 2 ^ 62 ∧ LoopG (Itr 0 j.toNat) g tb D nx σ H := by
  obtain ⟨rfl, _, h1, h2⟩ := rngO_some hg
  refine ⟨hi, rfl, by omega, by omega, ?_⟩
  have e : hi.toNat = (hi - 0).toNat := by rw [Int.sub_zero]
  rw [e]
  exact l_rng Pv h0 hs hd
theorem l_rng2 {g : TG} {tb : TS} {nx : L2.St → Hp → Prop} {lo hi : Int} {xs : List Int} (hg : Mi.rngO lo hi = some xs) (Pv : Nat → L2.St → Hp → Prop) (h0 : Pv 0 σ H)
    (hs : ∀ (i : Nat) (x : Int) σ' H', xs[i]? = some x → Pv i σ' H' → g (.int x) σ' H' fun σ2 H2 => tb { D with nx := Pv (i + 1), ct := Pv (i + 1), bk := nx } σ2 H2) (hd : ∀ σ' H', Pv xs.length σ' H' → nx σ' H') :
    ∃ i j : Int, [V.int lo, V.int hi] = [.int i, .int j] ∧ (-(2 ^ 62) ≤ i ∧ i < 2 ^ 62 ∧ -(2 ^ 62) ≤ j ∧ j < 2 ^ 62) ∧ LoopG (Itr i (j - i).toNat) g tb D nx σ H := by
  obtain ⟨rfl, h1, h2⟩ := rngO_some hg
  exact ⟨lo, hi, rfl, by omega, l_rng Pv h0 hs hd⟩
theorem l_lst {g : TG} {tb : TS} {nx : L2.St → Hp → Prop} {xs : List α} (r : (yLst τ).rep K H F v xs) (Pv : Nat → L2.St → Hp → Prop) (h0 : Pv 0 σ H) (hl : ∀ i σ' H', Pv i σ' H' → (yLst τ).rep K H' F v xs)
    (hs : ∀ (i : Nat) (x : α) (u : V) σ' H', xs[i]? = some x → τ.rep K H' [] u x → Pv i σ' H' → g u σ' H' fun σ2 H2 => tb { D with nx := Pv (i + 1), ct := Pv (i + 1), bk := nx } σ2 H2) (hd : ∀ σ' H', Pv xs.length σ' H' → nx σ' H') :
    ∃ a, v = .ref a ∧ (∃ xs, SqL K H a xs) ∧ LoopG (Itl K a) g tb D nx σ H := by
  obtain ⟨a, vs, e, s, q⟩ := lst_sq r
  refine ⟨a, e, ⟨vs, s⟩, fun i m σ' H' => m = xs.length - i ∧ i ≤ xs.length ∧ Pv i σ' H', ⟨xs.length, by omega, Nat.zero_le _, h0⟩, ?_⟩
  rintro i m σ' H' ⟨rfl, hi, p⟩
  obtain ⟨a', vs', e', s', q'⟩ := lst_sq (hl i σ' H' p)
  obtain rfl : a = a' := by rw [e] at e'; exact V.ref.inj e'
  by_cases hlt : i < xs.length
  · obtain ⟨u, hu, ru⟩ := pr_get q' (List.getElem?_eq_getElem hlt)
    refine .inr ⟨⟨vs', u, s', hu⟩, Pv (i + 1), fun σ2 H2 p' => ⟨xs.length - (i + 1), by omega, rfl, hlt, p'⟩, fun x H2 y => ?_⟩
    obtain ⟨rfl, y⟩ := y
    obtain rfl : x = u := Option.some.inj ((y _ s').symm.trans hu)
    exact hs i _ _ σ' _ (List.getElem?_eq_getElem hlt) ru p
  · obtain rfl : i = xs.length := by omega
    exact .inl ⟨⟨vs', s', by rw [pr_len q']; exact Nat.le_refl _⟩, hd σ' H' p⟩
theorem l_tup {g : TG} {tb : TS} {nx : L2.St → Hp → Prop} {xs : List α} (r : (yTupL τ).rep K H F v xs) (Pv : Nat → L2.St → Hp → Prop) (h0 : Pv 0 σ H) (hl : ∀ i σ' H', Pv i σ' H' → (yTupL τ).rep K H' F v xs)
    (hs : ∀ (i : Nat) (x : α) (u : V) σ' H', xs[i]? = some x → τ.rep K H' [] u x → Pv i σ' H' → g u σ' H' fun σ2 H2 => tb { D with nx := Pv (i + 1), ct := Pv (i + 1), bk := nx } σ2 H2) (hd : ∀ σ' H', Pv xs.length σ' H' → nx σ' H') :
    ∃ a, v = .ref a ∧ (∃ xs, SqT K H a xs) ∧ LoopG (Itt K a) g tb D nx σ H := by
  obtain ⟨a, vs, e, s, q⟩ := tupl_sq r
  refine ⟨a, e, ⟨vs, s⟩, fun i m σ' H' => m = xs.length - i ∧ i ≤ xs.length ∧ Pv i σ' H', ⟨xs.length, by omega, Nat.zero_le _, h0⟩, ?_⟩
  rintro i m σ' H' ⟨rfl, hi, p⟩
  obtain ⟨a', vs', e', s', q'⟩ := tupl_sq (hl i σ' H' p)
  obtain rfl : a = a' := by rw [e] at e'; exact V.ref.inj e'
  by_cases hlt : i < xs.length
  · obtain ⟨u, hu, ru⟩ := pr_get q' (List.getElem?_eq_getElem hlt)
    refine .inr ⟨⟨vs', u, s', hu⟩, Pv (i + 1), fun σ2 H2 p' => ⟨xs.length - (i + 1), by omega, rfl, hlt, p'⟩, fun x H2 y => ?_⟩
    obtain ⟨rfl, y⟩ := y
    obtain rfl : x = u := Option.some.inj ((y _ s').symm.trans hu)
    exact hs i _ _ σ' _ (List.getElem?_eq_getElem hlt) ru p
  · obtain rfl : i = xs.length := by omega
    exact .inl ⟨⟨vs', s', by rw [pr_len q']; exact Nat.le_refl _⟩, hd σ' H' p⟩
end
/-! ### the items of tuples -/
/-- the n-th item has the kind τ and the data p d -/
def At {α β : Type} (ts : Tys α) (n : Nat) (τ : Ty β) (p : α → β) : Prop := ∀ {K : PySem.W.Frag} {H : Hp} {F : List Addr} {vs : List V} {d : α}, ts.rep K H F vs d → ∃ u F1, vs[n]? = some u ∧ τ.rep K H F1 u (p d) ∧ ∀ a ∈ F1, a ∈ F
theorem at1 {α : Type} {τ : Ty α} : At (sOne τ) 0 τ id := fun h => by
  obtain ⟨v, rfl, r⟩ := h
  exact ⟨v, _, rfl, r, fun _ h => h⟩
theorem at0 {α β : Type} {τ : Ty α} {ts : Tys β} : At (sCons τ ts) 0 τ (fun d => d.1) := fun h => by
  obtain ⟨v, ws, F1, F2, rfl, rfl, r, q⟩ := h
  exact ⟨v, F1, rfl, r, fun _ h => List.mem_append_left _ h⟩
theorem atS {α β γ : Type} {τ : Ty α} {ts : Tys β} {n : Nat} {υ : Ty γ} {p : β → γ} (A : At ts n υ p) : At (sCons τ ts) (n + 1) υ (fun d => p d.2) := fun h => by
  obtain ⟨v, ws, F1, F2, rfl, rfl, r, q⟩ := h
  obtain ⟨u, F3, e, ru, sub⟩ := A q
  exact ⟨u, F3, e, ru, fun _ h => List.mem_append_right _ (sub _ h)⟩
theorem Dj.sub {F G F1 : List Addr} (d : Dj F G) (s : ∀ a ∈ F1, a ∈ F) : Dj F1 G := fun a h => d a (s a h)
theorem itm_tup {α β : Type} {ts : Tys α} {n : Nat} {τ : Ty β} {p : α → β} {K : PySem.W.Frag} {H : Hp} {F : List Addr} {v : V} {d : α} (A : At ts n τ p) (r : (yTup ts).rep K H F v d) :
    ∃ u F1, τ.rep K H F1 u (p d) ∧ (∀ a ∈ F1, a ∈ F) ∧ (∀ {Q : VK}, Q u H → rIxT K v (.int (n : Int)) H Q) ∧ ∀ {σ : L2.St} {ta tb : TE}, Val ta σ H v → Val tb σ H (.int (n : Int)) → Val (tOp (rIxT K) ta tb) σ H u := by
  obtain ⟨a, vs, rfl, s, q⟩ := r
  obtain ⟨u, F1, e, ru, sub⟩ := A q
  have k : ∀ {Q : VK}, Q u H → rIxT K (.ref a) (.int (n : Int)) H Q := fun k => ⟨a, vs, n, u, rfl, rfl, s, atI_nat e, k⟩
  exact ⟨u, F1, ru, sub, k, fun ha hb => val_op ha hb fun Q q => k q⟩
end G

namespace G
open PySem PySem.Spec PyProof.Rows L2
section
variable {K : PySem.W.Frag} {σ σ' : L2.St} {H : Hp} {F G F1 F2 : List Addr} {ta tb te : TE} {v u x y w : V} {i j : Int} {t tu : TT} {b c a : Bool} {α β : Type} {τ : Ty α} {Q : VK} {D : Ends} {t1 t2 : TS}
theorem s_setE {k : Nat} (h : Val te σ H v) (ev : v = w) (e : σ.set k (some w) = σ') (q : D.nx σ' H) : tAsg te (gName k) D σ H := s_set (ev ▸ h) e q
theorem g_nameE {k : Nat} {Q : L2.St → Hp → Prop} (ev : v = w) (e : σ.set k (some w) = σ') (q : Q σ' H) : gName k v σ H Q := g_name (by rw [ev]; exact e) q
theorem s_aug {k : Nat} {f : Int → Int → Int} {m n p : Int} (hx : σ[k]? = some (some (.int m))) (h : Val te σ H (.int n)) (en : f m n = p) (e : σ.set k (some (.int p)) = σ') (q : D.nx σ' H) : tAug k te (ipI f) D σ H :=
  ⟨_, hx, h _ ⟨m, n, rfl, rfl, by rw [en]; show D.nx (List.set σ k (some (.int p))) H; rw [e]; exact q⟩⟩
/-! ### None or data -/
theorem nn_int : V.int i ≠ .non := fun z => nomatch z
theorem nn_bl : V.bl b ≠ .non := fun z => nomatch z
theorem nn_str {s : Str} : V.str s ≠ .non := fun z => nomatch z
theorem nn_lst {xs : List α} (r : (yLst τ).rep K H F v xs) : v ≠ .non := by obtain ⟨a, vs, rfl, _⟩ := r; exact fun z => nomatch z
theorem nn_tupl {xs : List α} (r : (yTupL τ).rep K H F v xs) : v ≠ .non := by obtain ⟨a, vs, rfl, _⟩ := r; exact fun z => nomatch z
theorem nn_tup {ts : Tys α} {d : α} (r : (yTup ts).rep K H F v d) : v ≠ .non := by obtain ⟨a, vs, rfl, _⟩ := r; exact fun z => nomatch z
theorem opt_some {d : Option α} {x : α} (r : (yOpt τ).rep K H F v d) (h : d = some x) : τ.rep K H F v x := by subst h; exact r.2
theorem opt_int {d : Option Int} {x : Int} (r : (yOpt yInt).rep K H F v d) (h : d = some x) : F = [] ∧ v = .int x := opt_some r h
theorem opt_bool {d : Option Bool} {x : Bool} (r : (yOpt yBool).rep K H F v d) (h : d = some x) : F = [] ∧ v = .bl x := opt_some r h
theorem opt_str {d : Option (List Nat)} {x : List Nat} (r : (yOpt yStr).rep K H F v d) (h : d = some x) : F = [] ∧ v = .str (toS x) := opt_some r h
theorem opt_dec {d : Option α} (r : (yOpt τ).rep K H F v d) : decide (v = .non) = d.isNone := by
  cases d with
  | none => obtain ⟨_, rfl⟩ := r; rfl
  | some x => exact decide_eq_false r.1
theorem opt_decN {d : Option α} (r : (yOpt τ).rep K H F v d) : (!decide (v = .non)) = d.isSome := by
  rw [opt_dec r]; cases d <;> rfl
theorem val_isN {d : Option α} (r : (yOpt τ).rep K H F v d) (ha : Val ta σ H v) : Val (tOp rIsN ta (tC .non)) σ H (.bl d.isNone) := val_op ha val_c fun Q q => ⟨rfl, by rw [opt_dec r]; exact q⟩
theorem val_notN {d : Option α} (r : (yOpt τ).rep K H F v d) (ha : Val ta σ H v) : Val (tOp rNotN ta (tC .non)) σ H (.bl d.isSome) := val_op ha val_c fun Q q => ⟨rfl, by rw [opt_decN r]; exact q⟩
theorem w_isN {d : Option α} (r : (yOpt τ).rep K H F v d) (k : Q (.bl d.isNone) H) : rIsN v .non H Q := ⟨rfl, by rw [opt_dec r]; exact k⟩
theorem w_notN {d : Option α} (r : (yOpt τ).rep K H F v d) (k : Q (.bl d.isSome) H) : rNotN v .non H Q := ⟨rfl, by rw [opt_decN r]; exact k⟩
/-! ### footprints -/
theorem Dj.app (d1 : Dj F1 G) (d2 : Dj F2 G) : Dj (F1 ++ F2) G := fun a h => (List.mem_append.mp h).elim (d1 a) (d2 a)
theorem app_fresh {H0 : Hp} (n1 : ∀ a ∈ F1, H0 a = none) (n2 : ∀ a ∈ F2, H0 a = none) : ∀ a ∈ F1 ++ F2, H0 a = none := fun a h => (List.mem_append.mp h).elim (n1 a) (n2 a)
theorem nil_fresh {H0 : Hp} : ∀ a ∈ ([] : List Addr), H0 a = none := fun a h => nomatch h
def Fz {α : Type} (τ : Ty α) : Prop := ∀ {K : PySem.W.Frag} {H : Hp} {F : List Addr} {v : V} {d : α}, τ.rep K H F v d → F = []
def Fzs {α : Type} (τ : Tys α) : Prop := ∀ {K : PySem.W.Frag} {H : Hp} {F : List Addr} {v : List V} {d : α}, τ.rep K H F v d → F = []
theorem fz_int : Fz yInt := fun h => h.1
theorem fz_bool : Fz yBool := fun h => h.1
theorem fz_str : Fz yStr := fun h => h.1
theorem fz_none : Fz yNon := fun h => h.1
theorem fz_scr : Fz yScr := fun h => h.1
theorem fz_tupl {τ : Ty α} : Fz (yTupL τ) := fun h => by obtain ⟨_, _, _, e, _⟩ := h; exact e
theorem fz_opt {τ : Ty α} (z : Fz τ) : Fz (yOpt τ) := fun {K H F v d} h => by
  cases d with
  | none => exact h.1
  | some x => exact z h.2
theorem fzs_one {τ : Ty α} (z : Fz τ) : Fzs (sOne τ) := fun h => by obtain ⟨_, _, r⟩ := h; exact z r
theorem fzs_cons {τ : Ty α} {ts : Tys β} (z : Fz τ) (zs : Fzs ts) : Fzs (sCons τ ts) := fun h => by
  obtain ⟨_, _, F1, F2, _, e, r, q⟩ := h
  rw [e, z r, zs q]; rfl
theorem fz_tup {ts : Tys α} (z : Fzs ts) : Fz (yTup ts) := fun h => by obtain ⟨_, _, _, _, r⟩ := h; exact z r
def LenS {α : Type} (ts : Tys α) (n : Nat) : Prop := ∀ {K : PySem.W.Frag} {H : Hp} {F : List Addr} {vs : List V} {d : α}, ts.rep K H F vs d → vs.length = n
theorem lens_one {τ : Ty α} : LenS (sOne τ) 1 := fun h => by obtain ⟨_, e, _⟩ := h; rw [e]; rfl
theorem lens_cons {τ : Ty α} {ts : Tys β} {n : Nat} (z : LenS ts n) : LenS (sCons τ ts) (n + 1) := fun h => by
  obtain ⟨_, _, _, _, e, _, _, q⟩ := h
  rw [e, List.length_cons, z q]
theorem val_lenU {ts : Tys α} {d : α} {n : Nat} (l : LenS ts n) (r : (yTup ts).rep K H F v d) (ha : Val ta σ H v) : Val (tCB (rLenQ K) (tCons ta tNil)) σ H (.int (n : Int)) := by
  obtain ⟨p, vs, rfl, s, q⟩ := r
  exact fun Q k => ha _ ⟨p, vs, rfl, .inr s, by rw [l q]; exact k⟩
/-! ### unpacking -/
theorem g_names {Q : L2.St → Hp → Prop} {σ1 : L2.St} (e : σ1 = σ') (k : Q σ' H) : Q σ1 H := e ▸ k
theorem g_tup2 {β : Type} {τ1 : Ty α} {τ2 : Ty β} {d : α × β} {i1 i2 : Nat} {Q : L2.St → Hp → Prop} (r : (yTup (sCons τ1 (sOne τ2))).rep K H [] v d)
    (k : ∀ u1 u2, τ1.rep K H [] u1 d.1 → τ2.rep K H [] u2 d.2 → Q ((σ.set i1 (some u1)).set i2 (some u2)) H) : gTup K 2 (gCons (gName i1) (gCons (gName i2) gNil)) v σ H Q := by
  obtain ⟨a, vs, rfl, s, v1, ws, F1, F2, rfl, e, r1, v2, rfl, r2⟩ := r
  obtain ⟨rfl, rfl⟩ : F1 = [] ∧ F2 = [] := List.append_eq_nil_iff.mp e.symm
  exact ⟨a, _, rfl, s, rfl, v1, _, rfl, v2, _, rfl, rfl, k v1 v2 r1 r2⟩
theorem g_tup3 {β γ : Type} {τ1 : Ty α} {τ2 : Ty β} {τ3 : Ty γ} {d : α × β × γ} {i1 i2 i3 : Nat} {Q : L2.St → Hp → Prop} (r : (yTup (sCons τ1 (sCons τ2 (sOne τ3)))).rep K H [] v d)
    (k : ∀ u1 u2 u3, τ1.rep K H [] u1 d.1 → τ2.rep K H [] u2 d.2.1 → τ3.rep K H [] u3 d.2.2 → Q (((σ.set i1 (some u1)).set i2 (some u2)).set i3 (some u3)) H) : gTup K 3 (gCons (gName i1) (gCons (gName i2) (gCons (gName i3) gNil))) v σ H Q := by
  obtain ⟨a, vs, rfl, s, v1, ws, F1, F2, rfl, e, r1, v2, ws2, F3, F4, rfl, e2, r2, v3, rfl, r3⟩ := r
  obtain ⟨rfl, rfl⟩ : F1 = [] ∧ F2 = [] := List.append_eq_nil_iff.mp e.symm
  obtain ⟨rfl, rfl⟩ : F3 = [] ∧ F4 = [] := List.append_eq_nil_iff.mp e2.symm
  exact ⟨a, _, rfl, s, rfl, v1, _, rfl, v2, _, rfl, v3, _, rfl, rfl, k v1 v2 v3 r1 r2 r3⟩
theorem g_tup4 {β γ δ : Type} {τ1 : Ty α} {τ2 : Ty β} {τ3 : Ty γ} {τ4 : Ty δ} {d : α × β × γ × δ} {i1 i2 i3 i4 : Nat} {Q : L2.St → Hp → Prop} (r : (yTup (sCons τ1 (sCons τ2 (sCons τ3 (sOne τ4))))).rep K H [] v d)
    (k : ∀ u1 u2 u3 u4, τ1.rep K H [] u1 d.1 → τ2.rep K H [] u2 d.2.1 → τ3.rep K H [] u3 d.2.2.1 → τ4.rep K H [] u4 d.2.2.2 → Q ((((σ.set i1 (some u1)).set i2 (some u2)).set i3 (some u3)).set i4 (some u4)) H) : gTup K 4 (gCons (gName i1) (gCons (gName i2) (gCons (gName i3) (gCons (gName i4) gNil)))) v σ H Q := by
  obtain ⟨a, vs, rfl, s, v1, ws, F1, F2, rfl, e, r1, v2, ws2, F3, F4, rfl, e2, r2, v3, ws3, F5, F6, rfl, e3, r3, v4, rfl, r4⟩ := r
  obtain ⟨rfl, rfl⟩ : F1 = [] ∧ F2 = [] := List.append_eq_nil_iff.mp e.symm
  obtain ⟨rfl, rfl⟩ : F3 = [] ∧ F4 = [] := List.append_eq_nil_iff.mp e2.symm
  obtain ⟨rfl, rfl⟩ : F5 = [] ∧ F6 = [] := List.append_eq_nil_iff.mp e3.symm
  exact ⟨a, _, rfl, s, rfl, v1, _, rfl, v2, _, rfl, v3, _, rfl, v4, _, rfl, rfl, k v1 v2 v3 v4 r1 r2 r3 r4⟩
/-! ### range(lo, hi, -1) -/
theorem w_iRng3 {ts : TA} {R : It → Hp → Prop} (h : ts σ H fun vs H1 => ∃ (i j c : Int) (n : Nat), vs = [.int i, .int j, .int c] ∧ RgC i j c n ∧ R (Itc i c n) H1) : iRng3 ts σ H R := h
theorem l_rngD {g : TG} {tb : TS} {nx : L2.St → Hp → Prop} {lo hi : Int} {xs : List Int} (hg : Mi.rngDownO lo hi = some xs) (Pv : Nat → L2.St → Hp → Prop) (h0 : Pv 0 σ H)
    (hs : ∀ (i : Nat) (x : Int) σ' H', xs[i]? = some x → Pv i σ' H' → g (.int x) σ' H' fun σ2 H2 => tb { D with nx := Pv (i + 1), ct := Pv (i + 1), bk := nx } σ2 H2) (hd : ∀ σ' H', Pv xs.length σ' H' → nx σ' H') :
    ∃ (i j c : Int) (n : Nat), [V.int lo, V.int hi, V.int (-1)] = [.int i, .int j, .int c] ∧ RgC i j c n ∧ LoopG (Itc i c n) g tb D nx σ H := by
  unfold Mi.rngDownO at hg
  split at hg
  · rename_i hc
    obtain rfl := Option.some.inj hg
    have hl : (Mi.rngDown lo hi).length = (lo - hi).toNat := by unfold Mi.rngDown; rw [List.length_map, List.length_range]
    refine ⟨lo, hi, -1, (lo - hi).toNat, rfl, RgC.neg (by omega) (by omega) (by omega) (by omega), ?_⟩
    refine for_rangeC (D := { D with nx := nx }) (lo := lo) (c := -1) (n := (lo - hi).toNat) Pv h0 (fun i σ' H' hi' p => hs i _ σ' H' ?_ p) (fun σ' H' p => hd σ' H' (by rw [hl]; exact p))
    unfold Mi.rngDown
    rw [List.getElem?_map, List.getElem?_range hi']
    show some (lo - (i : Int)) = some (lo + (i : Int) * -1)
    congr 1
    omega
  · cases hg
end
end G
namespace G
open PySem PySem.Spec PyProof.Rows L2
/-- the def at one address is one def -/
theorem fn_law {P : Program} {w : World} {K : PySem.W.Frag} {mg : Str → Option Value} {x : Str} {k : Nat} {sp : Sp} {fa : Addr} (hfa : mg x = some (.ref fa)) {p : Str} (c : Cal P w K mg x [p] k sp) :
    ∃ fd : FuncData, (∀ (s : Shared) (v : Value), BindsTo s fd ⟨[v], []⟩ [(p, v)]) ∧ ∀ base : Heap, K.In base → base.Ns mainGlobals mg → FnOk P w K mg base CX0 k fa fd [p] sp := by
  obtain ⟨f, fd, g, _, b, ok⟩ := c.ex
  obtain rfl : fa = f := Value.ref.inj (Option.some.inj (hfa.symm.trans g))
  exact ⟨fd, fun s v => b s [v] rfl, fun base _ _ => ok base⟩
end G

namespace G
open PySem PySem.Spec PyProof.Rows L2
section
variable {K : PySem.W.Frag} {σ σ' : L2.St} {H : Hp} {F F1 F2 : List Addr} {ta tb te : TE} {v u x y w : V} {i j : Int} {t tu tt : TT} {b c a : Bool} {α β : Type} {τ : Ty α} {υ : Ty β} {Q : VK} {D : Ends} {t1 t2 : TS} {g : TG} {ws : List Nat}
/-! ### list comprehensions -/
/-- y goes to the list at D, then N -/
def AppG (D : Addr) (N : Hp → Prop) (y : V) (H : Hp) : Prop := ∃ acc, H D = some (.lst acc) ∧ acc.length < sizeLine ∧ N (upd H D (.lst (acc ++ [y])))
/-- one turn: the new list at D grows or not, then N -/
def TurnG (g : TG) (tt : TT) (te : TE) (ws : List Nat) (σ : L2.St) (D : Addr) (N : Hp → Prop) (x : V) (H : Hp) : Prop :=
  g x (wipe σ ws) H fun σ2 H2 => wipe σ2 ws = wipe σ ws ∧ tt σ2 H2 fun b H3 => if b = true then te σ2 H3 (AppG D N) else N H3
def CompG (J : It) (g : TG) (tt : TT) (te : TE) (ws : List Nat) (σ : L2.St) (H : Hp) (Q : VK) : Prop := ∀ D, H D = none → ∃ W : Nat → Nat → Hp → Prop, (∃ m, W 0 m (upd H D (.lst []))) ∧ ∀ i m H, W i m H →
  (J.stop i H ∧ Q (.ref D) H) ∨ (J.go i H ∧ ∃ N : Hp → Prop, (∀ H', N H' → ∃ m', m' < m ∧ W (i + 1) m' H') ∧ ∀ x H', J.yld i H x H' → TurnG g tt te ws σ D N x H')
theorem w_lc {wi : TI} (h : wi σ H fun J H1 => CompG J g tt te ws σ H1 Q) : tLc wi g tt te ws σ H Q := h
theorem w_yes {Q : Bool → Hp → Prop} (h : Q true H) : tYes σ H Q := h
theorem empty_lst {p : Addr} (np : H p = none) : (yLst τ).rep K (upd H p (.lst [])) [p] (.ref p) [] := ⟨p, [], rfl, rfl, upd_same, .nil⟩
theorem comp_by {J : It} (n : Nat) (Pv : Addr → Nat → Hp → Prop) (h0 : ∀ D H', H D = none → Chg [] H H' → (yLst τ).rep K H' [D] (.ref D) [] → Pv D 0 H')
    (hs : ∀ D i H', i < n → Pv D i H' → J.go i H' ∧ ∀ x H2, J.yld i H' x H2 → TurnG g tt te ws σ D (Pv D (i + 1)) x H2) (hd : ∀ D H', H D = none → Pv D n H' → J.stop n H' ∧ Q (.ref D) H') : CompG J g tt te ws σ H Q := by
  intro D hD
  refine ⟨fun i m H' => m = n - i ∧ i ≤ n ∧ Pv D i H', ⟨n, by omega, Nat.zero_le _, h0 D _ hD (Chg.new hD) (empty_lst hD)⟩, ?_⟩
  rintro i m H' ⟨rfl, hi, p⟩
  by_cases hlt : i < n
  · obtain ⟨h1, h2⟩ := hs D i H' hlt p
    exact .inr ⟨h1, Pv D (i + 1), fun H2 p' => ⟨n - (i + 1), by omega, rfl, hlt, p'⟩, h2⟩
  · obtain rfl : i = n := by omega
    exact .inl (hd D H' hD p)
theorem kc_lst {xs : List β} (r : (yLst υ).rep K H F v xs) (Pv : Addr → Nat → Hp → Prop) (h0 : ∀ D H', H D = none → Chg [] H H' → (yLst τ).rep K H' [D] (.ref D) [] → Pv D 0 H') (hl : ∀ D i H', Pv D i H' → (yLst υ).rep K H' F v xs)
    (hs : ∀ D (i : Nat) (x : β) (u : V) H', xs[i]? = some x → υ.rep K H' [] u x → Pv D i H' → TurnG g tt te ws σ D (Pv D (i + 1)) u H') (hd : ∀ D H', H D = none → Pv D xs.length H' → Q (.ref D) H') :
    ∃ a, v = .ref a ∧ (∃ xs, SqL K H a xs) ∧ CompG (Itl K a) g tt te ws σ H Q := by
  obtain ⟨a, vs, e, s, q⟩ := lst_sq r
  refine ⟨a, e, ⟨vs, s⟩, comp_by (K := K) (τ := τ) xs.length Pv h0 (fun D i H' hi p => ?_) (fun D H' hD p => ?_)⟩
  · obtain ⟨a', vs', e', s', q'⟩ := lst_sq (hl D i H' p)
    obtain rfl : a = a' := by rw [e] at e'; exact V.ref.inj e'
    obtain ⟨u, hu, ru⟩ := pr_get q' (List.getElem?_eq_getElem hi)
    refine ⟨⟨vs', u, s', hu⟩, fun x H2 y => ?_⟩
    obtain ⟨rfl, y⟩ := y
    obtain rfl : x = u := Option.some.inj ((y _ s').symm.trans hu)
    exact hs D i _ _ _ (List.getElem?_eq_getElem hi) ru p
  · obtain ⟨a', vs', e', s', q'⟩ := lst_sq (hl D _ H' p)
    obtain rfl : a = a' := by rw [e] at e'; exact V.ref.inj e'
    exact ⟨⟨vs', s', by rw [pr_len q']; exact Nat.le_refl _⟩, hd D H' hD p⟩
theorem kc_tup {xs : List β} (r : (yTupL υ).rep K H F v xs) (Pv : Addr → Nat → Hp → Prop) (h0 : ∀ D H', H D = none → Chg [] H H' → (yLst τ).rep K H' [D] (.ref D) [] → Pv D 0 H') (hl : ∀ D i H', Pv D i H' → (yTupL υ).rep K H' F v xs)
    (hs : ∀ D (i : Nat) (x : β) (u : V) H', xs[i]? = some x → υ.rep K H' [] u x → Pv D i H' → TurnG g tt te ws σ D (Pv D (i + 1)) u H') (hd : ∀ D H', H D = none → Pv D xs.length H' → Q (.ref D) H') :
    ∃ a, v = .ref a ∧ (∃ xs, SqT K H a xs) ∧ CompG (Itt K a) g tt te ws σ H Q := by
  obtain ⟨a, vs, e, s, q⟩ := tupl_sq r
  refine ⟨a, e, ⟨vs, s⟩, comp_by (K := K) (τ := τ) xs.length Pv h0 (fun D i H' hi p => ?_) (fun D H' hD p => ?_)⟩
  · obtain ⟨a', vs', e', s', q'⟩ := tupl_sq (hl D i H' p)
    obtain rfl : a = a' := by rw [e] at e'; exact V.ref.inj e'
    obtain ⟨u, hu, ru⟩ := pr_get q' (List.getElem?_eq_getElem hi)
    refine ⟨⟨vs', u, s', hu⟩, fun x H2 y => ?_⟩
    obtain ⟨rfl, y⟩ := y
    obtain rfl : x = u := Option.some.inj ((y _ s').symm.trans hu)
    exact hs D i _ _ _ (List.getElem?_eq_getElem hi) ru p
  · obtain ⟨a', vs', e', s', q'⟩ := tupl_sq (hl D _ H' p)
    obtain rfl : a = a' := by rw [e] at e'; exact V.ref.inj e'
    exact ⟨⟨vs', s', by rw [pr_len q']; exact Nat.le_refl _⟩, hd D H' hD p⟩
theorem kc_rng {lo hi : Int} (Pv : Addr → Nat → Hp → Prop) (h0 : ∀ D H', H D = none → Chg [] H H' → (yLst τ).rep K H' [D] (.ref D) [] → Pv D 0 H')
    (hs : ∀ D (i : Nat) (x : Int) H', (Mi.rng lo hi)[i]? = some x → Pv D i H' → TurnG g tt te ws σ D (Pv D (i + 1)) (.int x) H') (hd : ∀ D H', H D = none → Pv D (Mi.rng lo hi).length H' → Q (.ref D) H') :
    CompG (Itr lo (hi - lo).toNat) g tt te ws σ H Q := by
  refine comp_by (K := K) (τ := τ) (hi - lo).toNat Pv h0 (fun D i H' hi' p => ⟨hi', fun x H2 y => ?_⟩) (fun D H' hD p => ⟨Nat.le_refl _, hd D H' hD (by rw [rng_len]; exact p)⟩)
  obtain ⟨rfl, rfl⟩ := y
  exact hs D i _ _ (rng_at hi') p
theorem kc_rng1 {hi : Int} {xs : List Int} (hg : Mi.rngO 0 hi = some xs) (Pv : Addr → Nat → Hp → Prop) (h0 : ∀ D H', H D = none → Chg [] H H' → (yLst τ).rep K H' [D] (.ref D) [] → Pv D 0 H')
    (hs : ∀ D (i : Nat) (x : Int) H', xs[i]? = some x → Pv D i H' → TurnG g tt te ws σ D (Pv D (i + 1)) (.int x) H') (hd : ∀ D H', H D = none → Pv D xs.length H' → Q (.ref D) H') :
    ∃ j : Int, [V.int hi] = [.int j] ∧ -(2 ^ 62) ≤ j ∧ j < 2 ^ 62 ∧ CompG (Itr 0 j.toNat) g tt te ws σ H Q := by
  obtain ⟨rfl, _, h1, h2⟩ := rngO_some hg
  refine ⟨hi, rfl, by omega, by omega, ?_⟩
  have e : hi.toNat = (hi - 0).toNat := by rw [Int.sub_zero]
  rw [e]
  exact kc_rng (K := K) (τ := τ) Pv h0 hs hd
theorem kc_rng2 {lo hi : Int} {xs : List Int} (hg : Mi.rngO lo hi = some xs) (Pv : Addr → Nat → Hp → Prop) (h0 : ∀ D H', H D = none → Chg [] H H' → (yLst τ).rep K H' [D] (.ref D) [] → Pv D 0 H')
    (hs : ∀ D (i : Nat) (x : Int) H', xs[i]? = some x → Pv D i H' → TurnG g tt te ws σ D (Pv D (i + 1)) (.int x) H') (hd : ∀ D H', H D = none → Pv D xs.length H' → Q (.ref D) H') :
    ∃ i j : Int, [V.int lo, V.int hi] = [.int i, .int j] ∧ (-(2 ^ 62) ≤ i ∧ i < 2 ^ 62 ∧ -(2 ^ 62) ≤ j ∧ j < 2 ^ 62) ∧ CompG (Itr i (j - i).toNat) g tt te ws σ H Q := by
  obtain ⟨rfl, h1, h2⟩ := rngO_some hg
  exact ⟨lo, hi, rfl, by omega, kc_rng (K := K) (τ := τ) Pv h0 hs hd⟩
/-- the item is put to the new list -/
theorem e_app {D : Addr} {N : Hp → Prop} {xs ys : List α} {d : α} (r : (yLst τ).rep K H [D] (.ref D) xs) (ru : τ.rep K H [] u d) (hm : Mi.app xs d = some ys) (k : ∀ H', Chg [D] H H' → (yLst τ).rep K H' [D] (.ref D) ys → N H') :
    AppG D N u H := by
  obtain ⟨p, vs, e, f, g, q⟩ := r
  obtain rfl : D = p := V.ref.inj e
  unfold Mi.app at hm
  split at hm
  · rename_i hz
    cases hm
    have c : Chg [D] H (upd H D (.lst (vs ++ [u]))) := Chg.wr g (fun z => z)
    exact ⟨vs, g, Nat.lt_of_lt_of_le (by rw [pr_len q]; exact hz) line_big, k _ c ⟨D, _, rfl, rfl, upd_same, pr_app (Paired.mapP q fun _ _ z => Ty.fz z c) (.cons (Ty.fz ru c) .nil)⟩⟩
  · cases hm
/-! ### + of lists, slices, list(..), tuple(..) -/
theorem w_cat {xs ys zs : List α} (r : (yLst τ).rep K H F1 v xs) (q : (yLst τ).rep K H F2 u ys) (hm : Mi.cat xs ys = some zs) (k : ∀ p H', H p = none → Chg [] H H' → (yLst τ).rep K H' [p] (.ref p) zs → Q (.ref p) H') : rCat v u H Q := by
  obtain ⟨p, vs, rfl, rfl, g, r1⟩ := r
  obtain ⟨p2, us, rfl, rfl, g2, r2⟩ := q
  unfold Mi.cat at hm
  split at hm
  · rename_i hz
    cases hm
    refine ⟨p, p2, vs, us, rfl, rfl, g, g2, sz (by rw [pr_len r1, pr_len r2]; exact hz), fun n nn => k n _ nn (Chg.new nn) ⟨n, _, rfl, rfl, upd_same, ?_⟩⟩
    exact Paired.mapP (pr_app r1 r2) fun _ _ z => Ty.ex z (Chg.new nn)
  · cases hm
theorem w_sl {r : V → Option Int → Option Int → Hp → VK → Prop} {tl th : TO} (h : te σ H fun x H1 => tl σ H1 fun l H2 => th σ H2 fun u H3 => r x l u H3 Q) : tSl r te tl th σ H Q := h
theorem w_pon {Q : Option Int → Hp → Prop} (h : Q none H) : tNoPart σ H Q := h
theorem w_pos {Q : Option Int → Hp → Prop} (h : te σ H fun x H1 => ∃ i, x = .int i ∧ Q (some i) H1) : tPart te σ H Q := h
theorem sl_l {X : Cx} {K : PySem.W.Frag} (e : X.K = K := by rfl) : SlR X (rSlL K) := by subst e; exact sl_list
theorem cut_eq {α : Type} (xs : List α) (lo hi : Option Int) : (xs.drop (HT.sIx xs.length 0 lo)).take (HT.sIx xs.length xs.length hi - HT.sIx xs.length 0 lo) = Mi.cut xs lo hi := by
  have e : ∀ n d o, HT.sIx n d o = Mi.sIx n d o := fun n d o => by cases o <;> rfl
  unfold Mi.cut
  rw [e, e]
theorem pr_cut {R : V → α → Prop} {vs : List V} {xs : List α} (r : Paired R vs xs) (lo hi : Option Int) : Paired R (cutV vs lo hi) (Mi.cut xs lo hi) := by
  rw [← cut_eq]
  unfold cutV
  rw [pr_len r]
  exact pr_take _ (pr_drop _ r)
theorem w_cutL {xs : List α} {lo hi : Option Int} (r : (yLst τ).rep K H F v xs) (k : ∀ p H', H p = none → Chg [] H H' → (yLst τ).rep K H' [p] (.ref p) (Mi.cut xs lo hi) → Q (.ref p) H') : rSlL K v lo hi H Q := by
  obtain ⟨p, vs, rfl, s, q⟩ := lst_sq r
  refine ⟨p, vs, rfl, s, fun n nn => k n _ nn (Chg.new nn) ⟨n, _, rfl, rfl, upd_same, ?_⟩⟩
  exact Paired.mapP (pr_cut q lo hi) fun _ _ z => Ty.ex z (Chg.new nn)
def rListQ (K : PySem.W.Frag) : List V → Hp → VK → Prop := fun xs H Q => ∃ p ys, xs = [.ref p] ∧ (SqL K H p ys ∨ SqT K H p ys) ∧ ∀ l, H l = none → Q (.ref l) (upd H l (.lst ys))
def rTupleQ (K : PySem.W.Frag) : List V → Hp → VK → Prop := fun xs H Q => ∃ p ys, xs = [.ref p] ∧ ((SqL K H p ys ∧ ∀ l, H l = none → Q (.ref l) (upd H l (.tup ys))) ∨ (SqT K H p ys ∧ Q (.ref p) H))
theorem cl_list {X : Cx} {K : PySem.W.Frag} (e : X.K = K := by rfl) : CallR X (.type "list") (rListQ K) := by subst e; exact call_list_of
theorem cl_tuple {X : Cx} {K : PySem.W.Frag} (e : X.K = K := by rfl) : CallR X (.type "tuple") (rTupleQ K) := by subst e; exact call_tuple_of
theorem w_listL {xs : List α} (r : (yLst τ).rep K H F v xs) (k : ∀ p H', H p = none → Chg [] H H' → (yLst τ).rep K H' [p] (.ref p) xs → Q (.ref p) H') : rListQ K [v] H Q := by
  obtain ⟨p, vs, rfl, s, q⟩ := lst_sq r
  exact ⟨p, vs, rfl, .inl s, fun n nn => k n _ nn (Chg.new nn) ⟨n, _, rfl, rfl, upd_same, Paired.mapP q fun _ _ z => Ty.ex z (Chg.new nn)⟩⟩
theorem w_listT {xs : List α} (r : (yTupL τ).rep K H F v xs) (k : ∀ p H', H p = none → Chg [] H H' → (yLst τ).rep K H' [p] (.ref p) xs → Q (.ref p) H') : rListQ K [v] H Q := by
  obtain ⟨p, vs, rfl, s, q⟩ := tupl_sq r
  exact ⟨p, vs, rfl, .inr s, fun n nn => k n _ nn (Chg.new nn) ⟨n, _, rfl, rfl, upd_same, Paired.mapP q fun _ _ z => Ty.ex z (Chg.new nn)⟩⟩
theorem w_tupleL {xs : List α} (r : (yLst τ).rep K H F v xs) (k : ∀ v H', Chg [] H H' → (yTupL τ).rep K H' [] v xs → Q v H') : rTupleQ K [v] H Q := by
  obtain ⟨p, vs, rfl, s, q⟩ := lst_sq r
  exact ⟨p, vs, rfl, .inl ⟨s, fun n nn => k _ _ (Chg.new nn) ⟨n, _, rfl, rfl, .inl (.inl upd_same), Paired.mapP q fun _ _ z => Ty.ex z (Chg.new nn)⟩⟩⟩
theorem w_tupleT {xs : List α} (r : (yTupL τ).rep K H F v xs) (k : ∀ v H', Chg [] H H' → (yTupL τ).rep K H' [] v xs → Q v H') : rTupleQ K [v] H Q := by
  obtain ⟨p, vs, rfl, s, q⟩ := tupl_sq r
  exact ⟨p, vs, rfl, .inr ⟨s, k _ _ (Chg.refl H) ⟨p, vs, rfl, rfl, s, q⟩⟩⟩
/-! ### in -/
theorem op_in_q {X : Cx} {K : PySem.W.Frag} (e : X.K = K := by rfl) : OpR X (compareOp .In) (rIn K false) := by subst e; exact op_in_seq
theorem op_ni_q {X : Cx} {K : PySem.W.Frag} (e : X.K = K := by rfl) : OpR X (compareOp .NotIn) (rIn K true) := by subst e; exact op_notIn_seq
theorem flat_ints (ns : List Int) : (ns.map V.int).all flatV = true := by
  rw [List.all_eq_true]
  intro x hx
  obtain ⟨n, _, rfl⟩ := List.mem_map.mp hx
  rfl
theorem in_ints (n : Int) : ∀ ns : List Int, inV (.int n) (ns.map V.int) = ns.contains n
  | [] => rfl
  | m :: ns => by
    have ih := in_ints n ns
    unfold inV at ih ⊢
    rw [List.map_cons, List.any_cons, List.contains_cons, ih]
    congr 1
    show (m == n) = (n == m)
    by_cases h : m = n
    · subst h; rfl
    · rw [beq_eq_false_iff_ne.mpr h, beq_eq_false_iff_ne.mpr (Ne.symm h)]
theorem ints_sqL {xs : List Int} (r : (yLst yInt).rep K H F v xs) : ∃ a, v = .ref a ∧ SqL K H a (xs.map V.int) := by
  obtain ⟨a, vs, e, s, q⟩ := lst_sq r
  rw [ints_of q] at s
  exact ⟨a, e, s⟩
theorem ints_sqT {xs : List Int} (r : (yTupL yInt).rep K H F v xs) : ∃ a, v = .ref a ∧ SqT K H a (xs.map V.int) := by
  obtain ⟨a, vs, e, s, q⟩ := tupl_sq r
  rw [ints_of q] at s
  exact ⟨a, e, s⟩
theorem w_inL {xs : List Int} (r : (yLst yInt).rep K H F v xs) (k : Q (.bl (xs.contains i)) H) : rIn K false (.int i) v H Q := by
  obtain ⟨a, rfl, s⟩ := ints_sqL r
  exact ⟨a, _, rfl, .inl s, rfl, flat_ints xs, by rw [if_neg Bool.false_ne_true, in_ints]; exact k⟩
theorem w_niL {xs : List Int} (r : (yLst yInt).rep K H F v xs) (k : Q (.bl (!xs.contains i)) H) : rIn K true (.int i) v H Q := by
  obtain ⟨a, rfl, s⟩ := ints_sqL r
  exact ⟨a, _, rfl, .inl s, rfl, flat_ints xs, by rw [if_pos rfl, in_ints]; exact k⟩
theorem w_inT {xs : List Int} (r : (yTupL yInt).rep K H F v xs) (k : Q (.bl (xs.contains i)) H) : rIn K false (.int i) v H Q := by
  obtain ⟨a, rfl, s⟩ := ints_sqT r
  exact ⟨a, _, rfl, .inr s, rfl, flat_ints xs, by rw [if_neg Bool.false_ne_true, in_ints]; exact k⟩
theorem w_niT {xs : List Int} (r : (yTupL yInt).rep K H F v xs) (k : Q (.bl (!xs.contains i)) H) : rIn K true (.int i) v H Q := by
  obtain ⟨a, rfl, s⟩ := ints_sqT r
  exact ⟨a, _, rfl, .inr s, rfl, flat_ints xs, by rw [if_pos rfl, in_ints]; exact k⟩
theorem val_inL {xs : List Int} (r : (yLst yInt).rep K H F v xs) (ha : Val ta σ H (.int i)) (hb : Val tb σ H v) : Val (tOp (rIn K false) ta tb) σ H (.bl (xs.contains i)) := val_op ha hb fun Q q => w_inL r q
theorem val_niL {xs : List Int} (r : (yLst yInt).rep K H F v xs) (ha : Val ta σ H (.int i)) (hb : Val tb σ H v) : Val (tOp (rIn K true) ta tb) σ H (.bl (!xs.contains i)) := val_op ha hb fun Q q => w_niL r q
theorem val_inT {xs : List Int} (r : (yTupL yInt).rep K H F v xs) (ha : Val ta σ H (.int i)) (hb : Val tb σ H v) : Val (tOp (rIn K false) ta tb) σ H (.bl (xs.contains i)) := val_op ha hb fun Q q => w_inT r q
theorem val_niT {xs : List Int} (r : (yTupL yInt).rep K H F v xs) (ha : Val ta σ H (.int i)) (hb : Val tb σ H v) : Val (tOp (rIn K true) ta tb) σ H (.bl (!xs.contains i)) := val_op ha hb fun Q q => w_niT r q
end
end G

namespace G
open PySem PySem.Spec PyProof.Rows L2
/-! ### instances -/
theorem lookup_zip {f : Str} : ∀ {ns : List Str} {vs : List V} {n : Nat} {u : V}, ns.Nodup → ns[n]? = some f → vs[n]? = some u → (ns.zip vs).lookup f = some u
  | [], _, _, _, _, h, _ => by simp at h
  | _ :: _, [], _, _, _, _, h => by simp at h
  | m :: ns, w :: vs, 0, u, nd, h, h2 => by
    obtain rfl : m = f := by simpa using h
    obtain rfl : w = u := by simpa using h2
    simp [List.lookup]
  | m :: ns, w :: vs, n + 1, u, nd, h, h2 => by
    have hne : (f == m) = false := by
      rw [beq_eq_false_iff_ne]
      intro e
      subst e
      have h3 : ns[n]? = some f := by simpa using h
      exact (List.nodup_cons.mp nd).1 (List.mem_of_getElem? h3)
    rw [List.zip_cons_cons]
    simp only [List.lookup, hne]
    exact lookup_zip (List.nodup_cons.mp nd).2 (by simpa using h) (by simpa using h2)
def yObj {α : Type} (C : Addr) (ns : List Str) (ts : Tys α) : Ty α where
  rep K H F v d := F = [] ∧ ∃ a dx vs, v = .ref a ∧ H a = some (.ins C dx (ns.zip vs)) ∧ done (ns.zip vs) = true ∧ ts.rep K H [] vs d
  keep {K H H' F v d} h k := by
    obtain ⟨e, a, dx, vs, e2, g, f, r⟩ := h
    exact ⟨e, a, dx, vs, e2, k a _ g (.inr f), f, ts.keep r fun b o hb z => k b o hb (z.elim (fun y => nomatch y) .inr)⟩
  dom {K H F v d} h b m := by rw [h.1] at m; cases m
/-- an instance that its __init__ has begun: the attributes ns hold the values ws -/
def yPart (C dx : Addr) (ns : List Str) : Ty (List V) where
  rep K H F v ws := ∃ x, v = .ref x ∧ F = [x] ∧ H x = some (.ins C dx (ns.zip ws)) ∧ done (ns.zip ws) = false
  keep {K H H' F v ws} h k := by
    obtain ⟨x, e, rfl, g, f⟩ := h
    exact ⟨x, e, rfl, k x _ g (.inl (List.mem_singleton.mpr rfl)), f⟩
  dom {K H F v ws} h b m := by
    obtain ⟨x, e, rfl, g, f⟩ := h
    rw [List.mem_singleton] at m; subst m
    exact ⟨_, g, fun z => by have z' : done _ = true := z; rw [f] at z'; cases z'⟩
section
variable {K : PySem.W.Frag} {σ σ' : L2.St} {H : Hp} {F : List Addr} {ta tb te tv : TE} {v u x y w : V} {α β : Type} {τ : Ty α} {Q : VK} {D : Ends} {t1 t2 : TS} {C dx p : Addr} {ns : List Str} {f : Str}
theorem fz_obj {ts : Tys α} : Fz (yObj C ns ts) := fun h => h.1
theorem nn_obj {ts : Tys α} {d : α} (r : (yObj C ns ts).rep K H F v d) : v ≠ .non := by obtain ⟨_, a, _, _, rfl, _⟩ := r; exact fun z => nomatch z
/-- o.f: what is asked of the value o -/
def FldG (K : PySem.W.Frag) (f : Str) (x : V) (H : Hp) (Q : VK) : Prop := ∃ a C dx fs v, x = .ref a ∧ H a = some (.ins C dx fs) ∧ Cls K C ∧ NoAttr K C f ∧ fs.lookup f = some v ∧ Q v H
theorem w_fld (h : ta σ H fun x H1 => FldG K f x H1 Q) : tFld K ta f σ H Q := h
theorem fld_obj {ts : Tys α} {n : Nat} {υ : Ty β} {pr : α → β} {d : α} (A : At ts n υ pr) (nd : ns.Nodup) (hn : ns[n]? = some f) (c : Cls K C) (na : NoAttr K C f) (r : (yObj C ns ts).rep K H F v d) :
    ∃ u, υ.rep K H [] u (pr d) ∧ (∀ {Q : VK}, Q u H → FldG K f v H Q) ∧ ∀ {σ : L2.St} {ta : TE}, Val ta σ H v → Val (tFld K ta f) σ H u := by
  obtain ⟨_, a, dx, vs, rfl, g, _, rs⟩ := r
  obtain ⟨u, F1, e, ru, sub⟩ := A rs
  have e1 : F1 = [] := by
    cases F1 with
    | nil => rfl
    | cons z zs => exact nomatch sub z (List.mem_cons_self ..)
  subst e1
  have k : ∀ {Q : VK}, Q u H → FldG K f (.ref a) H Q := fun q => ⟨a, C, dx, _, u, rfl, g, c, na, lookup_zip nd hn e, q⟩
  exact ⟨u, ru, k, fun ha Q q => ha _ (k q)⟩
theorem fld_part {ws : List V} {n : Nat} (nd : ns.Nodup) (hn : ns[n]? = some f) (hw : ws[n]? = some u) (c : Cls K C) (na : NoAttr K C f) (r : (yPart C dx ns).rep K H F v ws) (ha : Val ta σ H v) : Val (tFld K ta f) σ H u := by
  obtain ⟨a, rfl, _, g, _⟩ := r
  exact fun Q q => ha _ ⟨a, C, dx, _, u, rfl, g, c, na, lookup_zip nd hn hw, q⟩
/-- self.f = e -/
def SFldG (K : PySem.W.Frag) (f : Str) (y x : V) (H : Hp) (X : Hp → Prop) : Prop := ∃ a C dx fs, x = .ref a ∧ H a = some (.ins C dx fs) ∧ Cls K C ∧ NoAttr K C f ∧ fs.length < 1000 ∧ X (upd H a (.ins C dx (putF f y fs)))
theorem q_fld (h : tv σ H fun y H1 => ta σ H1 fun x H2 => SFldG K f y x H2 (t2 D σ)) : tSeq (sFld K ta tv f) t2 D σ H := h
theorem putF_zip {f : Str} {y : V} : ∀ {ns : List Str} {ws : List V}, f ∉ ns → ns.length = ws.length → putF f y (ns.zip ws) = (ns ++ [f]).zip (ws ++ [y])
  | [], [], _, _ => rfl
  | [], _ :: _, _, h => by simp at h
  | _ :: _, [], _, h => by simp at h
  | m :: ns, w :: ws, hf, h => by
    have hne : f ≠ m := fun e => hf (by rw [e]; exact List.mem_cons_self ..)
    have ih := putF_zip (f := f) (y := y) (ns := ns) (ws := ws) (fun z => hf (List.mem_cons_of_mem _ z)) (by simpa using h)
    rw [List.zip_cons_cons]
    show putF f y ((m, w) :: ns.zip ws) = _
    unfold putF
    split
    · rename_i e
      exact absurd (by simpa using e) (by first | exact hne | exact (Ne.symm hne))
    · rw [ih]; rfl
theorem m_fldP {ws : List V} {X : Hp → Prop} (r : (yPart C dx ns).rep K H F v ws) (c : Cls K C) (na : NoAttr K C f) (hf : f ∉ ns) (hl : ns.length = ws.length) (hs : ns.length < 900) (hd : done ((ns ++ [f]).zip (ws ++ [y])) = false)
    (k : ∀ H', Chg F H H' → (yPart C dx (ns ++ [f])).rep K H' F v (ws ++ [y]) → X H') : SFldG K f y v H X := by
  obtain ⟨a, rfl, rfl, g, nf⟩ := r
  have cc : Chg [a] H (upd H a (.ins C dx (putF f y (ns.zip ws)))) := Chg.wr g (fun z => by have z' : done _ = true := z; rw [nf] at z'; cases z')
  refine ⟨a, C, dx, _, rfl, g, c, na, by rw [List.length_zip, ← hl]; omega, k _ cc ⟨a, rfl, rfl, ?_, hd⟩⟩
  rw [upd_same, putF_zip hf hl]
theorem m_fldE {ws : List V} {X : Hp → Prop} {ts : Tys α} {d : α} (r : (yPart C dx ns).rep K H F v ws) (c : Cls K C) (na : NoAttr K C f) (hf : f ∉ ns) (hl : ns.length = ws.length) (hs : ns.length < 900) (hd : done ((ns ++ [f]).zip (ws ++ [y])) = true)
    (rs : ts.rep K H [] (ws ++ [y]) d) (k : ∀ H', Chg F H H' → (yObj C (ns ++ [f]) ts).rep K H' [] v d → X H') : SFldG K f y v H X := by
  obtain ⟨a, rfl, rfl, g, nf⟩ := r
  have cc : Chg [a] H (upd H a (.ins C dx (putF f y (ns.zip ws)))) := Chg.wr g (fun z => by have z' : done _ = true := z; rw [nf] at z'; cases z')
  refine ⟨a, C, dx, _, rfl, g, c, na, by rw [List.length_zip, ← hl]; omega, k _ cc ⟨rfl, a, dx, _, rfl, ?_, hd, ts.keep rs fun b o hb z => cc.keep b o hb (z.elim (fun y => nomatch y) .inr)⟩⟩
  rw [upd_same, putF_zip hf hl]
/-- C(..): the new instance -/
def MakeG (C : Addr) (sp : Sp) (E : XK) (vs : V → List V) (H : Hp) (Q : VK) : Prop := ∀ x dx, H x = none → H dx = none → dx ≠ x → sp (vs (.ref x)) (upd (upd H dx (.own x)) x (.ins C dx [])) (fun v H3 => v = .non ∧ Q (.ref x) H3) E
theorem make_new {x : Addr} (nx : H x = none) (nd : H dx = none) (ne : dx ≠ x) : Chg [] H (upd (upd H dx (.own x)) x (.ins C dx [])) ∧ (yPart C dx []).rep K (upd (upd H dx (.own x)) x (.ins C dx [])) [x] (.ref x) [] :=
  ⟨(Chg.new nd).trans (Chg.new (by rw [upd_ne (Ne.symm ne)]; exact nx)), x, rfl, rfl, upd_same, rfl⟩
theorem tInt_tup {d : Int} : True := trivial
end
end G
namespace G
open PySem PySem.Spec PyProof.Rows L2
/-- what the top leaves of a class -/
structure Tx (K : PySem.W.Frag) (mg : Str → Option Value) (C : Addr) (x : Str) (ns : List Str) : Prop where
  cls : Cls K C
  mgC : mg x = some (.ref C)
  na : ∀ f ∈ ns, NoAttr K C f
structure CalM (P : Program) (w : World) (K : PySem.W.Frag) (mg : Str → Option Value) (C : Addr) (m : Str) (ps : List Str) (k : Nat) (sp : Sp) : Prop where
  ex : ∃ f fd, Meth K C m f ∧ (∀ (s : Shared) (us : List Value), us.length = ps.length → BindsTo s fd ⟨us, []⟩ (ps.zip us)) ∧ ∀ base : Heap, FnOk P w K mg base CX0 k f fd ps sp
structure CalI (P : Program) (w : World) (K : PySem.W.Frag) (mg : Str → Option Value) (C : Addr) (qual : Str) (st : Stmt) (kws : List (Str × V)) (ps : List Str) (k : Nat) (sp : Sp) : Prop where
  ex : ∃ f fd, Mk K C f ∧ FunD K "__init__" qual (defArgs st) (defBody st) (defScope st) [] kws f fd ∧ ∀ base : Heap, FnOk P w K mg base CX0 k f fd ps sp
structure DfnM (K : PySem.W.Frag) (C : Addr) (m qual : Str) (st : Stmt) : Prop where
  ex : ∃ f fd, Fun K m qual st f fd ∧ Meth K C m f
structure DfnI (K : PySem.W.Frag) (C : Addr) (qual : Str) (st : Stmt) (kws : List (Str × V)) : Prop where
  ex : ∃ f fd, FunD K "__init__" qual (defArgs st) (defBody st) (defScope st) [] kws f fd ∧ Mk K C f
section
variable {X : Cx} {K : PySem.W.Frag} {σ : L2.St} {H : Hp} {F : List Addr} {ta te : TE} {v : V} {α : Type} {Q : VK} {C : Addr} {ns : List Str} {m : Str}
def MethG (C : Addr) (m : Str) (x : V) (H : Hp) (R : Prop) : Prop := ∃ a dx fs, x = .ref a ∧ H a = some (.ins C dx fs) ∧ fs.lookup m = none ∧ R
theorem w_meth {sp : Sp} {E : XK} {ts : TA} (h : ta σ H fun x H1 => MethG C m x H1 (ts σ H1 fun vs H2 => sp (x :: (vs ++ [])) H2 Q E)) : tMeth C m sp [] E ta ts σ H Q := h
theorem lookup_none {f : Str} : ∀ {ns : List Str} {vs : List V}, f ∉ ns → (ns.zip vs).lookup f = none
  | [], _, _ => rfl
  | _ :: _, [], _ => rfl
  | m :: ns, w :: vs, h => by
    have hne : (f == m) = false := by
      rw [beq_eq_false_iff_ne]
      exact fun e => h (by rw [e]; exact List.mem_cons_self ..)
    rw [List.zip_cons_cons]
    simp only [List.lookup, hne]
    exact lookup_none fun z => h (List.mem_cons_of_mem _ z)
theorem meth_obj {ts : Tys α} {d : α} {R : Prop} (r : (yObj C ns ts).rep K H F v d) (hm : m ∉ ns) (k : R) : MethG C m v H R := by
  obtain ⟨_, a, dx, vs, rfl, g, _, _⟩ := r
  exact ⟨a, dx, _, rfl, g, lookup_none hm, k⟩
theorem w_makeK {n k : Nat} {sp : Sp} {gV : List V → List V → List V} {E : XK} {t tk : TA} (h : t σ H fun vs H1 => tk σ H1 fun zs H2 => vs.length = n ∧ zs.length = k ∧ MakeG C sp E (fun x => gV (x :: vs) zs) H2 Q) : tMakeK C n k sp gV E t tk σ H Q := h
theorem w_mk {sp : Sp} {E : XK} {t : TA} {dvs : List V} (h : t σ H fun vs H1 => MakeG C sp E (fun x => x :: (vs ++ dvs)) H1 Q) : tMake C sp dvs E t σ H Q := h
theorem pe_cm {ps : List Str} {j k : Nat} {sp : Sp} {pl : Sem Bool} {apos pos : Pos} {o e : Expr} {es : List Expr} {t : TA} (he : PE X o ta) (c : Cls X.K C) (M : CalM X.prog X.w X.K X.mg C m ps j sp) (hr : Room k X.A) (ha : PA X (e :: es) t) (hj : j ≤ k := by decide)
    (h1 : ∀ {f : Addr} {fd : FuncData}, FnOk X.prog X.w X.K X.mg X.base CX0 j f fd ps sp → Meth X.K C m f → Binds X.K fd ps [] → Room j X.A → PE X (.Call (.Attribute o m apos) (e :: es) [] pos) (tMeth C m sp [] E0 ta t)) : PE X (.Call (.Attribute o m apos) (e :: es) [] pos) (tMeth C m sp [] E0 ta t) := by
  obtain ⟨f, fd, hm, b, F⟩ := M.ex
  exact h1 (F X.base) hm (fun s us _ hl => by rw [List.append_nil] at hl ⊢; exact b s us hl) (hr.mono hj)
end
end G

namespace G
open PySem PySem.Spec PyProof.Rows L2
section
variable {K : PySem.W.Frag} {σ σ' : L2.St} {H : Hp} {F F1 F2 Fu : List Addr} {ta tb te : TE} {v u x y : V} {i j : Int} {t tu tt : TT} {b c a : Bool} {α β : Type} {τ : Ty α} {υ : Ty β} {Q : VK} {D : Ends} {t1 t2 : TS} {g : TG} {ws : List Nat}
/-! ### shifts -/
theorem shlC {i j r : Int} (h : Mi.shl i j = some r) : CPow i j ∧ i * 2 ^ j.toNat = r := by
  unfold Mi.shl at h
  split at h
  · rename_i hc
    exact ⟨⟨hc.1, by omega, by omega⟩, Option.some.inj h⟩
  · cases h
theorem shrC {i j r : Int} (h : Mi.shr i j = some r) : 0 ≤ j ∧ i / 2 ^ j.toNat = r := by
  unfold Mi.shr at h
  split at h
  · exact ⟨by assumption, Option.some.inj h⟩
  · cases h
theorem val_shlO {r : Int} (ha : Val ta σ H (.int i)) (hb : Val tb σ H (.int j)) (h : Mi.shl i j = some r) : Val (tOp (rI CPow fun i j => .int (i * 2 ^ j.toNat)) ta tb) σ H (.int r) := val_is (val_I (g := fun i j => .int (i * 2 ^ j.toNat)) ha hb (shlC h).1) (by rw [← (shlC h).2])
theorem val_shrO {r : Int} (ha : Val ta σ H (.int i)) (hb : Val tb σ H (.int j)) (h : Mi.shr i j = some r) : Val (tOp (rI (fun _ j => 0 ≤ j) fun i j => .int (i / 2 ^ j.toNat)) ta tb) σ H (.int r) := val_is (val_I (g := fun i j => .int (i / 2 ^ j.toNat)) ha hb (shrC h).1) (by rw [← (shrC h).2])
theorem w_shl {r : Int} (h : Mi.shl i j = some r) (k : Q (.int r) H) : rI CPow (fun i j => .int (i * 2 ^ j.toNat)) (.int i) (.int j) H Q := ⟨i, j, rfl, rfl, (shlC h).1, by show Q (.int (i * 2 ^ j.toNat)) H; rw [(shlC h).2]; exact k⟩
theorem w_shr {r : Int} (h : Mi.shr i j = some r) (k : Q (.int r) H) : rI (fun _ j => 0 ≤ j) (fun i j => .int (i / 2 ^ j.toNat)) (.int i) (.int j) H Q := ⟨i, j, rfl, rfl, (shrC h).1, by show Q (.int (i / 2 ^ j.toNat)) H; rw [(shrC h).2]; exact k⟩
/-! ### sorted -/
theorem cl_sortedL {X : Cx} {K : PySem.W.Frag} (e : X.K = K := by rfl) : CallR X (.builtin "sorted") (rSortedI K) := by subst e; exact cr_sortedI
theorem sortI_perm (xs : List Int) : (Mi.sortI xs).Perm xs := List.mergeSort_perm _ _
theorem sortI_sorted (xs : List Int) : (Mi.sortI xs).Pairwise (· ≤ ·) := by
  have h := List.pairwise_mergeSort (le := fun a b : Int => decide (a ≤ b)) (fun a b c h1 h2 => by simp at *; omega) (fun a b => by simp; omega) xs
  exact List.Pairwise.imp (fun h => by simpa using h) h
theorem sorted_unique : ∀ {xs ys : List Int}, xs.Perm ys → xs.Pairwise (· ≤ ·) → ys.Pairwise (· ≤ ·) → xs = ys
  | [], ys, p, _, _ => (List.Perm.nil_eq p)
  | x :: xs, [], p, _, _ => absurd p.length_eq (by simp)
  | x :: xs, y :: ys, p, h1, h2 => by
    have hx := List.pairwise_cons.mp h1
    have hy := List.pairwise_cons.mp h2
    have e : x = y := by
      have a1 : y ∈ x :: xs := p.mem_iff.mpr (List.mem_cons_self ..)
      have a2 : x ∈ y :: ys := p.mem_iff.mp (List.mem_cons_self ..)
      rcases List.mem_cons.mp a1 with r | r
      · exact r.symm
      · rcases List.mem_cons.mp a2 with q | q
        · exact q
        · have := hx.1 y r
          have := hy.1 x q
          omega
    subst e
    rw [sorted_unique (List.Perm.cons_inv p) hx.2 hy.2]
theorem w_sortedL {xs : List Int} (r : (yLst yInt).rep K H F v xs) (k : ∀ p H', H p = none → Chg [] H H' → (yLst yInt).rep K H' [p] (.ref p) (Mi.sortI xs) → Q (.ref p) H') : rSortedI K [v] H Q := by
  obtain ⟨p, rfl, s⟩ := ints_sqL r
  refine ⟨p, xs, rfl, s, fun ns q pm so nq => ?_⟩
  rw [sorted_unique (pm.trans (sortI_perm xs).symm) so (sortI_sorted xs)]
  exact k q _ nq (Chg.new nq) ⟨q, _, rfl, rfl, upd_same, ints_mk _⟩
/-! ### sets of ints -/
def ySet (w : World) : Ty (List Int) where
  rep K H F v xs := ∃ a, v = .ref a ∧ F = [a] ∧ H a = some (SetO w a (fun i => xs.contains i) xs.length)
  keep {K H H' F v xs} h k := by
    obtain ⟨a, e, rfl, g⟩ := h
    exact ⟨a, e, rfl, k a _ g (.inl (List.mem_singleton.mpr rfl))⟩
  dom {K H F v xs} h b m := by
    obtain ⟨a, e, rfl, g⟩ := h
    rw [List.mem_singleton] at m; subst m
    exact ⟨_, g, fun z => z⟩
theorem cl_set0 {X : Cx} {w : World} (e : X.w = w := by rfl) : CallR X (.type "set") (rSet0 w) := by subst e; exact cr_set0
theorem w_set0 {w : World} (k : ∀ p H', H p = none → Chg [] H H' → (ySet w).rep K H' [p] (.ref p) [] → Q (.ref p) H') : rSet0 w [] H Q := ⟨rfl, fun p np => k p _ np (Chg.new np) ⟨p, rfl, rfl, upd_same⟩⟩
theorem op_in_s {X : Cx} {w : World} (e : X.w = w := by rfl) : OpR X (compareOp .In) (rSIn w) := by subst e; exact or_sin
theorem op_ni_s {X : Cx} {w : World} (e : X.w = w := by rfl) : OpR X (compareOp .NotIn) (rSNotIn w) := by subst e; exact or_snotin
theorem w_inS {w : World} {xs : List Int} (r : (ySet w).rep K H F v xs) (k : Q (.bl (xs.contains i)) H) : rSIn w (.int i) v H Q := by
  obtain ⟨p, rfl, rfl, g⟩ := r
  exact ⟨i, p, _, _, rfl, rfl, g, k⟩
theorem w_niS {w : World} {xs : List Int} (r : (ySet w).rep K H F v xs) (k : Q (.bl (!xs.contains i)) H) : rSNotIn w (.int i) v H Q := by
  obtain ⟨p, rfl, rfl, g⟩ := r
  exact ⟨i, p, _, _, rfl, rfl, g, k⟩
theorem val_inS {w : World} {xs : List Int} (r : (ySet w).rep K H F v xs) (ha : Val ta σ H (.int i)) (hb : Val tb σ H v) : Val (tOp (rSIn w) ta tb) σ H (.bl (xs.contains i)) := val_op ha hb fun Q q => w_inS r q
theorem val_niS {w : World} {xs : List Int} (r : (ySet w).rep K H F v xs) (ha : Val ta σ H (.int i)) (hb : Val tb σ H v) : Val (tOp (rSNotIn w) ta tb) σ H (.bl (!xs.contains i)) := val_op ha hb fun Q q => w_niS r q
theorem w_sadd {w : World} {to : TE} {ts : TA} (h : to σ H fun x H1 => (∃ a S n, x = V.ref a ∧ H1 a = some (SetO w a S n)) ∧ ts σ H1 fun xs H2 => rSAdd w x xs H2 Q) : tSAdd w to ts σ H Q := h
theorem tyv_set {w : World} {xs : List Int} (r : (ySet w).rep K H F v xs) : ∃ a S n, v = V.ref a ∧ H a = some (SetO w a S n) := by
  obtain ⟨p, rfl, rfl, g⟩ := r
  exact ⟨p, _, _, rfl, g⟩
theorem m_sadd {w : World} {xs ys : List Int} (r : (ySet w).rep K H F v xs) (hm : Mi.sadd xs i = some ys) (k : ∀ H', Chg F H H' → (ySet w).rep K H' F v ys → Q .non H') : rSAdd w v [.int i] H Q := by
  obtain ⟨p, rfl, rfl, g⟩ := r
  unfold Mi.sadd at hm
  split at hm
  · rename_i hz
    obtain rfl := Option.some.inj hm
    refine ⟨p, i, _, _, rfl, rfl, g, by show xs.length + 1 < 4096; omega, ?_⟩
    refine k _ (Chg.wr g (fun z => z)) ⟨p, rfl, rfl, ?_⟩
    rw [upd_same]
    congr 1
    by_cases hc : xs.contains i = true
    · have e1 : (fun j => xs.contains j || decide (j = i)) = fun j => xs.contains j := by
        funext j
        by_cases hj : j = i
        · subst hj; rw [hc]; rfl
        · rw [decide_eq_false hj, Bool.or_false]
      rw [if_pos hc, if_pos hc]
      show SetO w p (fun j => xs.contains j || decide (j = i)) _ = _
      rw [e1]
    · rw [if_neg hc, if_neg hc]
      have e1 : (fun j => xs.contains j || decide (j = i)) = fun j => (xs ++ [i]).contains j := by
        funext j
        rw [List.contains_eq_mem, List.contains_eq_mem]
        by_cases hj : j = i
        · subst hj; simp
        · simp [hj]
      show SetO w p (fun j => xs.contains j || decide (j = i)) _ = _
      rw [e1, List.length_append]
      rfl
  · cases hm
/-! ### lists by their methods -/
theorem m_clear {xs : List α} (r : (yLst τ).rep K H F v xs) (k : ∀ H', Chg F H H' → (yLst τ).rep K H' F v [] → Q .non H') : rClear v [] H Q := by
  obtain ⟨p, vs, rfl, rfl, g, q⟩ := r
  exact ⟨p, vs, rfl, rfl, g, k _ (Chg.wr g (fun z => z)) ⟨p, [], rfl, rfl, upd_same, .nil⟩⟩
theorem pr_rev {R : V → α → Prop} : ∀ {vs : List V} {xs : List α}, Paired R vs xs → Paired R vs.reverse xs.reverse
  | _, _, .nil => .nil
  | _, _, .cons r t => by
    rw [List.reverse_cons, List.reverse_cons]
    exact pr_app (pr_rev t) (.cons r .nil)
theorem m_reverse {xs : List α} (r : (yLst τ).rep K H F v xs) (k : ∀ H', Chg F H H' → (yLst τ).rep K H' F v xs.reverse → Q .non H') : rReverse v [] H Q := by
  obtain ⟨p, vs, rfl, rfl, g, q⟩ := r
  have c : Chg [p] H (upd H p (.lst vs.reverse)) := Chg.wr g (fun z => z)
  exact ⟨p, vs, rfl, rfl, g, k _ c ⟨p, _, rfl, rfl, upd_same, Paired.mapP (pr_rev q) fun _ _ z => Ty.fz z c⟩⟩
theorem pr_dropLast {R : V → α → Prop} {vs : List V} {xs : List α} (r : Paired R vs xs) : Paired R vs.dropLast xs.dropLast := by
  rw [List.dropLast_eq_take, List.dropLast_eq_take, pr_len r]
  exact pr_take _ r
theorem pr_erase {R : V → α → Prop} {vs : List V} {xs : List α} (r : Paired R vs xs) (n : Nat) : Paired R (vs.eraseIdx n) (xs.eraseIdx n) := by
  rw [List.eraseIdx_eq_take_drop_succ, List.eraseIdx_eq_take_drop_succ]
  exact pr_app (pr_take _ r) (pr_drop _ r)
theorem m_pop {xs : List α} {p : α × List α} (r : (yLst τ).rep K H F v xs) (hm : Mi.popL xs = some p) (k : ∀ u H', Chg F H H' → τ.rep K H' [] u p.1 → (yLst τ).rep K H' F v p.2 → Q u H') : rPop v [] H Q := by
  obtain ⟨l, vs, rfl, rfl, g, q⟩ := r
  unfold Mi.popL at hm
  obtain ⟨y, hy, hm⟩ := Mi.bnd hm
  obtain rfl := Option.some.inj hm
  obtain ⟨u, hu, ru⟩ := pr_get q hy
  have c : Chg [l] H (upd H l (.lst vs.dropLast)) := Chg.wr g (fun z => z)
  exact ⟨l, vs, u, rfl, rfl, g, by rw [pr_len q]; exact hu, k u _ c (Ty.fz ru c) ⟨l, _, rfl, rfl, upd_same, Paired.mapP (pr_dropLast q) fun _ _ z => Ty.fz z c⟩⟩
theorem m_popAt {xs : List α} {p : α × List α} (r : (yLst τ).rep K H F v xs) (hm : Mi.popAt xs i = some p) (hb : xs.length ≤ Mi.big) (k : ∀ u H', Chg F H H' → τ.rep K H' [] u p.1 → (yLst τ).rep K H' F v p.2 → Q u H') : rPopAt v [.int i] H Q := by
  obtain ⟨l, vs, rfl, rfl, g, q⟩ := r
  unfold Mi.popAt at hm
  obtain ⟨j, hj, hm⟩ := Mi.bnd hm
  obtain ⟨y, hy, hm⟩ := Mi.bnd hm
  obtain rfl := Option.some.inj hm
  obtain ⟨u, hu, ru⟩ := pr_get q hy
  have c : Chg [l] H (upd H l (.lst (vs.eraseIdx j))) := Chg.wr g (fun z => z)
  obtain ⟨h1, h2, h3, h4⟩ := ixN_seq (show L2.ixN vs.length i = some j by rw [pr_len q]; exact hj)
  have hb2 : vs.length ≤ 1000000 := by rw [pr_len q]; exact hb
  exact ⟨l, vs, i, j, u, rfl, rfl, g, by omega, by omega, h1, hu, k u _ c (Ty.fz ru c) ⟨l, _, rfl, rfl, upd_same, Paired.mapP (pr_erase q j) fun _ _ z => Ty.fz z c⟩⟩
end
end G

namespace G
open PySem PySem.Spec PyProof.Rows L2
/-! ### a list whose items may hold lists -/
def Sub (F G : List Addr) : Prop := ∀ b ∈ F, b ∈ G
def yLsg {α : Type} (τ : Ty α) : Ty (List α) where
  rep K H F v xs := ∃ a vs G, v = .ref a ∧ F = a :: G ∧ a ∉ G ∧ H a = some (.lst vs) ∧ (∀ b ∈ G, ∃ o, H b = some o ∧ ¬ Froz o) ∧ Paired (fun u x => ∃ Fi, τ.rep K H Fi u x ∧ Sub Fi G) vs xs
  keep {K H H' F v xs} h k := by
    obtain ⟨a, vs, G, e, rfl, na, g, dm, r⟩ := h
    refine ⟨a, vs, G, e, rfl, na, k a _ g (.inl (List.mem_cons_self ..)), fun b hb => ?_, Paired.mapP r fun u x q => ?_⟩
    · obtain ⟨o, ho, hf⟩ := dm b hb
      exact ⟨o, k b o ho (.inl (List.mem_cons_of_mem _ hb)), hf⟩
    · obtain ⟨Fi, ru, sb⟩ := q
      exact ⟨Fi, τ.keep ru fun b o hb z => k b o hb (z.imp (fun y => List.mem_cons_of_mem _ (sb b y)) id), sb⟩
  dom {K H F v xs} h b m := by
    obtain ⟨a, vs, G, e, rfl, na, g, dm, r⟩ := h
    rcases List.mem_cons.mp m with rfl | m
    · exact ⟨_, g, fun z => z⟩
    · exact dm b m
section
variable {K : PySem.W.Frag} {σ σ' : L2.St} {H : Hp} {F F1 F2 Fu : List Addr} {ta tb te : TE} {v u x y : V} {i j : Int} {t tu tt : TT} {b c a : Bool} {α β : Type} {τ : Ty α} {υ : Ty β} {Q : VK} {D : Ends} {t1 t2 : TS} {g : TG} {ws : List Nat}
theorem lsg_sq {xs : List α} (r : (yLsg τ).rep K H F v xs) : ∃ a vs, v = .ref a ∧ a ∈ F ∧ SqL K H a vs ∧ Paired (fun u x => ∃ Fi, τ.rep K H Fi u x ∧ Sub Fi F ∧ a ∉ Fi) vs xs := by
  obtain ⟨a, vs, G, e, rfl, na, g, dm, q⟩ := r
  exact ⟨a, vs, e, List.mem_cons_self .., .inl (.inl g), Paired.mapP q fun u x z => by
    obtain ⟨Fi, ru, sb⟩ := z
    exact ⟨Fi, ru, fun b hb => List.mem_cons_of_mem _ (sb b hb), fun hb => na (sb a hb)⟩⟩
theorem nn_lsg {xs : List α} (r : (yLsg τ).rep K H F v xs) : v ≠ .non := by obtain ⟨a, vs, G, rfl, _⟩ := r; exact fun z => nomatch z
theorem ty_lsg {xs : List α} (r : (yLsg τ).rep K H F v xs) : TyX K H v (.type "list") := by
  obtain ⟨a, vs, G, rfl, _, _, g, _⟩ := r
  exact .base (.lst g)
theorem tyv_lsg {xs : List α} (r : (yLsg τ).rep K H F v xs) : tyV K "list" v H := by
  obtain ⟨a, vs, rfl, _, s, q⟩ := lsg_sq r
  exact .inl ⟨rfl, _, s⟩
theorem val_lenG {xs : List α} (r : (yLsg τ).rep K H F v xs) (ha : Val ta σ H v) : Val (tCB (rLenQ K) (tCons ta tNil)) σ H (.int (xs.length : Int)) := by
  obtain ⟨a, vs, e, _, s, q⟩ := lsg_sq r
  subst e
  exact fun Q k => ha _ ⟨a, vs, rfl, .inl s, by rw [pr_len q]; exact k⟩
theorem w_lenG {xs : List α} (r : (yLsg τ).rep K H F v xs) (k : Q (.int (xs.length : Int)) H) : rLenQ K [v] H Q := by
  obtain ⟨a, vs, e, _, s, q⟩ := lsg_sq r
  subst e
  exact ⟨a, vs, rfl, .inl s, by rw [pr_len q]; exact k⟩
/-- the item's own value -/
theorem itm_G {xs : List α} {x : α} (r : (yLsg τ).rep K H F v xs) (h : Mi.at_ xs i = some x) :
    ∃ u Fi, τ.rep K H Fi u x ∧ Sub Fi F ∧ (∀ p, v = .ref p → p ∉ Fi) ∧ (∀ {Q : VK}, Q u H → rIxL K v (.int i) H Q) ∧ ∀ {σ : L2.St} {ta tb : TE}, Val ta σ H v → Val tb σ H (.int i) → Val (tOp (rIxL K) ta tb) σ H u := by
  obtain ⟨a, vs, e, _, s, q⟩ := lsg_sq r
  subst e
  obtain ⟨u, e, Fi, ru, sb, na⟩ := pr_at q h
  have k : ∀ {Q : VK}, Q u H → rIxL K (.ref a) (.int i) H Q := fun k => ⟨a, vs, i, u, rfl, rfl, s, e, k⟩
  exact ⟨u, Fi, ru, sb, fun p hp => by obtain rfl := V.ref.inj hp; exact na, k, fun ha hb => val_op ha hb fun Q q => k q⟩
/-- a new list of such items -/
theorem e_lsg {vs : List V} {xs : List α} {G : List Addr} (z : vs.length ≤ Mi.big) (dm : ∀ b ∈ G, ∃ o, H b = some o ∧ ¬ Froz o) (r : Paired (fun u x => ∃ Fi, τ.rep K H Fi u x ∧ Sub Fi G) vs xs)
    (k : ∀ p H', H p = none → Chg [] H H' → (yLsg τ).rep K H' (p :: G) (.ref p) xs → Q (.ref p) H') : LstG vs H Q := by
  refine ⟨sz z, fun p np => k p _ np (Chg.new np) ⟨p, vs, G, rfl, rfl, fun hp => ?_, upd_same, fun b hb => ?_, Paired.mapP r fun u x q => ?_⟩⟩
  · obtain ⟨o, ho, _⟩ := dm p hp
    rw [np] at ho; cases ho
  · obtain ⟨o, ho, hf⟩ := dm b hb
    exact ⟨o, by rw [upd_ne (ne_of_none ho np)]; exact ho, hf⟩
  · obtain ⟨Fi, ru, sb⟩ := q
    exact ⟨Fi, Ty.ex ru (Chg.new np), sb⟩
theorem Ty.dm {d : α} (r : τ.rep K H F v d) : ∀ b ∈ F, ∃ o, H b = some o ∧ ¬ Froz o := τ.dom r
theorem dm_nil : ∀ b ∈ ([] : List Addr), ∃ o, H b = some o ∧ ¬ Froz o := fun b h => nomatch h
theorem dm_app (d1 : ∀ b ∈ F1, ∃ o, H b = some o ∧ ¬ Froz o) (d2 : ∀ b ∈ F2, ∃ o, H b = some o ∧ ¬ Froz o) : ∀ b ∈ F1 ++ F2, ∃ o, H b = some o ∧ ¬ Froz o := fun b h => (List.mem_append.mp h).elim (d1 b) (d2 b)
/-- xs.append(e) -/
theorem m_appG {xs ys : List α} {d : α} (r : (yLsg τ).rep K H F v xs) (ru : τ.rep K H Fu u d) (ap : ∀ p, v = .ref p → p ∉ Fu) (hm : Mi.app xs d = some ys)
    (k : ∀ H' F', Chg F H H' → (yLsg τ).rep K H' F' v ys → Sub F F' → Sub F' (F ++ Fu) → Q .non H') : rAppend v [u] H Q := by
  obtain ⟨p, vs, G, rfl, rfl, na, g, dm, q⟩ := r
  have np : p ∉ Fu := ap p rfl
  unfold Mi.app at hm
  split at hm
  · rename_i hz
    cases hm
    have c : Chg [p] H (upd H p (.lst (vs ++ [u]))) := Chg.wr g (fun z => z)
    have kp : ∀ {γ : Type} {ρ : Ty γ} {Fi : List Addr} {w : V} {e : γ}, ρ.rep K H Fi w e → p ∉ Fi → ρ.rep K (upd H p (.lst (vs ++ [u]))) Fi w e := fun rr hn => Ty.chg rr c fun b hb z => by
      rw [List.mem_singleton] at z; subst z; exact hn hb
    refine ⟨p, vs, u, rfl, rfl, g, Nat.lt_of_lt_of_le (by rw [pr_len q]; exact hz) line_big, k _ (p :: (G ++ Fu)) (c.mono fun b hb => by rw [List.mem_singleton] at hb; subst hb; exact List.mem_cons_self ..) ⟨p, _, G ++ Fu, rfl, rfl, ?_, upd_same, ?_, ?_⟩ ?_ ?_⟩
    · intro hp
      exact (List.mem_append.mp hp).elim na np
    · intro b hb
      have hbp : b ≠ p := fun e => by subst e; exact (List.mem_append.mp hb).elim na np
      obtain ⟨o, ho, hf⟩ := dm_app dm (Ty.dm ru) b hb
      exact ⟨o, by rw [upd_ne hbp]; exact ho, hf⟩
    · refine pr_app (Paired.mapP q fun w e z => ?_) (.cons ⟨Fu, kp ru np, fun b hb => List.mem_append_right _ hb⟩ .nil)
      obtain ⟨Fi, rr, sb⟩ := z
      exact ⟨Fi, kp rr fun hp => na (sb p hp), fun b hb => List.mem_append_left _ (sb b hb)⟩
    · intro b hb
      rcases List.mem_cons.mp hb with rfl | hb
      · exact List.mem_cons_self ..
      · exact List.mem_cons_of_mem _ (List.mem_append_left _ hb)
    · intro b hb
      rcases List.mem_cons.mp hb with rfl | hb
      · exact List.mem_append_left _ (List.mem_cons_self ..)
      · rcases List.mem_append.mp hb with hb | hb
        · exact List.mem_append_left _ (List.mem_cons_of_mem _ hb)
        · exact List.mem_append_right _ hb
  · cases hm
theorem Dj.ap {p : Addr} (d : Dj F Fu) (hp : p ∈ F) : p ∉ Fu := d p hp
theorem ap_of {xs : List α} (r : (yLsg τ).rep K H F v xs) (d : Dj F Fu) : ∀ p, v = .ref p → p ∉ Fu := fun p e => by
  obtain ⟨a, vs, G, e2, rfl, _⟩ := r
  rw [e] at e2
  obtain rfl := V.ref.inj e2
  exact d p (List.mem_cons_self ..)
theorem Dj.grow {G' : List Addr} (d : Dj F1 F) (d2 : Dj F1 Fu) (s : Sub G' (F ++ Fu)) : Dj F1 G' := fun b hb z => (List.mem_append.mp (s b z)).elim (d b hb) (d2 b hb)
theorem fresh_grow {H0 : Hp} {G' : List Addr} (n1 : ∀ a ∈ F, H0 a = none) (n2 : ∀ a ∈ Fu, H0 a = none) (s : Sub G' (F ++ Fu)) : ∀ a ∈ G', H0 a = none := fun b hb => (List.mem_append.mp (s b hb)).elim (n1 b) (n2 b)
theorem fresh_cons {H0 : Hp} {p : Addr} (n1 : H0 p = none) (n2 : ∀ a ∈ F, H0 a = none) : ∀ a ∈ p :: F, H0 a = none := fun b hb => by
  rcases List.mem_cons.mp hb with rfl | hb
  · exact n1
  · exact n2 b hb
theorem Dj.consR {p : Addr} (d1 : Dj F [p]) (d2 : Dj F F2) : Dj F (p :: F2) := fun b hb z => by
  rcases List.mem_cons.mp z with rfl | z
  · exact d1 b hb (List.mem_singleton.mpr rfl)
  · exact d2 b hb z
theorem Dj.subR {G' : List Addr} (d : Dj F G') (s : Sub F1 G') : Dj F F1 := fun b hb z => d b hb (s b z)
/-- a loop over it -/
theorem l_lsg {g : TG} {tb : TS} {nx : L2.St → Hp → Prop} {xs : List α} (r : (yLsg τ).rep K H F v xs) (Pv : Nat → L2.St → Hp → Prop) (h0 : Pv 0 σ H) (hl : ∀ i σ' H', Pv i σ' H' → (yLsg τ).rep K H' F v xs)
    (hs : ∀ (i : Nat) (x : α) (u : V) (Fi : List Addr) σ' H', xs[i]? = some x → τ.rep K H' Fi u x → Sub Fi F → Pv i σ' H' → g u σ' H' fun σ2 H2 => tb { D with nx := Pv (i + 1), ct := Pv (i + 1), bk := nx } σ2 H2) (hd : ∀ σ' H', Pv xs.length σ' H' → nx σ' H') :
    ∃ a, v = .ref a ∧ (∃ xs, SqL K H a xs) ∧ LoopG (Itl K a) g tb D nx σ H := by
  obtain ⟨a, vs, e, _, s, q⟩ := lsg_sq r
  refine ⟨a, e, ⟨vs, s⟩, fun i m σ' H' => m = xs.length - i ∧ i ≤ xs.length ∧ Pv i σ' H', ⟨xs.length, by omega, Nat.zero_le _, h0⟩, ?_⟩
  rintro i m σ' H' ⟨rfl, hi, p⟩
  obtain ⟨a', vs', e', _, s', q'⟩ := lsg_sq (hl i σ' H' p)
  obtain rfl : a = a' := by rw [e] at e'; exact V.ref.inj e'
  by_cases hlt : i < xs.length
  · obtain ⟨u, hu, Fi, ru, sb, _⟩ := pr_get q' (List.getElem?_eq_getElem hlt)
    refine .inr ⟨⟨vs', u, s', hu⟩, Pv (i + 1), fun σ2 H2 p' => ⟨xs.length - (i + 1), by omega, rfl, hlt, p'⟩, fun x H2 y => ?_⟩
    obtain ⟨rfl, y⟩ := y
    obtain rfl : x = u := Option.some.inj ((y _ s').symm.trans hu)
    exact hs i _ _ Fi σ' _ (List.getElem?_eq_getElem hlt) ru sb p
  · obtain rfl : i = xs.length := by omega
    exact .inl ⟨⟨vs', s', by rw [pr_len q']; exact Nat.le_refl _⟩, hd σ' H' p⟩
theorem kc_lsg {xs : List β} (r : (yLsg υ).rep K H F v xs) (Pv : Addr → Nat → Hp → Prop) (h0 : ∀ D H', H D = none → Chg [] H H' → (yLst τ).rep K H' [D] (.ref D) [] → Pv D 0 H') (hl : ∀ D i H', Pv D i H' → (yLsg υ).rep K H' F v xs)
    (hs : ∀ D (i : Nat) (x : β) (u : V) (Fi : List Addr) H', xs[i]? = some x → υ.rep K H' Fi u x → Sub Fi F → Pv D i H' → TurnG g tt te ws σ D (Pv D (i + 1)) u H') (hd : ∀ D H', H D = none → Pv D xs.length H' → Q (.ref D) H') :
    ∃ a, v = .ref a ∧ (∃ xs, SqL K H a xs) ∧ CompG (Itl K a) g tt te ws σ H Q := by
  obtain ⟨a, vs, e, _, s, q⟩ := lsg_sq r
  refine ⟨a, e, ⟨vs, s⟩, comp_by (K := K) (τ := τ) xs.length Pv h0 (fun D i H' hi p => ?_) (fun D H' hD p => ?_)⟩
  · obtain ⟨a', vs', e', _, s', q'⟩ := lsg_sq (hl D i H' p)
    obtain rfl : a = a' := by rw [e] at e'; exact V.ref.inj e'
    obtain ⟨u, hu, Fi, ru, sb, _⟩ := pr_get q' (List.getElem?_eq_getElem hi)
    refine ⟨⟨vs', u, s', hu⟩, fun x H2 y => ?_⟩
    obtain ⟨rfl, y⟩ := y
    obtain rfl : x = u := Option.some.inj ((y _ s').symm.trans hu)
    exact hs D i _ _ Fi _ (List.getElem?_eq_getElem hi) ru sb p
  · obtain ⟨a', vs', e', _, s', q'⟩ := lsg_sq (hl D _ H' p)
    obtain rfl : a = a' := by rw [e] at e'; exact V.ref.inj e'
    exact ⟨⟨vs', s', by rw [pr_len q']; exact Nat.le_refl _⟩, hd D H' hD p⟩
theorem w_listG {xs : List α} (r : (yLsg τ).rep K H F v xs) (k : ∀ p H' F', H p = none → Chg [] H H' → (yLsg τ).rep K H' F' (.ref p) xs → Sub F' (p :: F) → Q (.ref p) H') : rListQ K [v] H Q := by
  obtain ⟨a, vs, G, rfl, rfl, na, g, dm, q⟩ := r
  refine ⟨a, vs, rfl, .inl (.inl (.inl g)), fun n nn => k n _ (n :: G) nn (Chg.new nn) ⟨n, vs, G, rfl, rfl, fun hp => ?_, upd_same, fun b hb => ?_, Paired.mapP q fun w e z => ?_⟩ fun b hb => ?_⟩
  · obtain ⟨o, ho, _⟩ := dm n hp
    rw [nn] at ho; cases ho
  · obtain ⟨o, ho, hf⟩ := dm b hb
    exact ⟨o, by rw [upd_ne (ne_of_none ho nn)]; exact ho, hf⟩
  · obtain ⟨Fi, rr, sb⟩ := z
    exact ⟨Fi, Ty.ex rr (Chg.new nn), sb⟩
  · rcases List.mem_cons.mp hb with rfl | hb
    · exact List.mem_cons_self ..
    · exact List.mem_cons_of_mem _ (List.mem_cons_of_mem _ hb)
end
/-! ### data compared as a whole -/
structure Dat {α : Type} (τ : Ty α) (n : Nat) where
  f : α → PyData
  dec : DecidableEq α
  dp : ∀ {K : PySem.W.Frag} {H : Hp} {F : List Addr} {v : V} {d : α}, τ.rep K H F v d → Dp K H v (f d)
  lay : ∀ d, (f d).canLay0 = true
  dpt : ∀ d, (f d).depth ≤ n
  eqv : ∀ d e, PyData.eqv (f d) (f e) = decide (d = e)
theorem beq_dec {α : Type} [DecidableEq α] [BEq α] [LawfulBEq α] (a b : α) : (a == b) = decide (a = b) := by
  by_cases h : a = b
  · subst h; simp
  · rw [decide_eq_false h]; simpa using h
def dat_int : Dat yInt 0 where
  f := .int
  dec := inferInstance
  dp := fun h => by obtain ⟨_, rfl⟩ := h; exact .int _
  lay := fun d => by simp [PyData.canLay0]
  dpt := fun d => by simp [PyData.depth]
  eqv := fun d e => by simp only [PyData.eqv]; exact beq_dec d e
def dat_bool : Dat yBool 0 where
  f := .bool
  dec := inferInstance
  dp := fun h => by obtain ⟨_, rfl⟩ := h; exact .bl _
  lay := fun d => by simp [PyData.canLay0]
  dpt := fun d => by simp [PyData.depth]
  eqv := fun d e => by simp only [PyData.eqv]; exact beq_dec d e
section
variable {α β : Type} {τ : Ty α} {n m : Nat}
theorem dpAll {K : PySem.W.Frag} {H : Hp} {R : V → α → Prop} {f : α → PyData} (h : ∀ u x, R u x → Dp K H u (f x)) : ∀ {vs : List V} {xs : List α}, Paired R vs xs → DpAll K H vs (xs.map f)
  | _, _, .nil => .nil
  | _, _, .cons r t => .cons (h _ _ r) (dpAll h t)
theorem layAll {f : α → PyData} (h : ∀ d, (f d).canLay0 = true) : ∀ xs : List α, PyData.canLayAll0 (xs.map f) = true
  | [] => by simp [PyData.canLayAll0]
  | x :: xs => by simp [PyData.canLayAll0, h x, layAll h xs]
theorem dptAll {f : α → PyData} (h : ∀ d, (f d).depth ≤ n) : ∀ xs : List α, PyData.depthAll (xs.map f) ≤ n
  | [] => by simp [PyData.depthAll]
  | x :: xs => by
    simp only [List.map_cons, PyData.depthAll]
    exact Nat.max_le.mpr ⟨h x, dptAll h xs⟩
theorem eqvAllL [DecidableEq α] {f : α → PyData} (h : ∀ d e, PyData.eqv (f d) (f e) = decide (d = e)) : ∀ xs ys : List α, PyData.eqvAll (xs.map f) (ys.map f) = decide (xs = ys)
  | [], [] => by simp [PyData.eqvAll]
  | [], y :: ys => by simp [PyData.eqvAll]
  | x :: xs, [] => by simp [PyData.eqvAll]
  | x :: xs, y :: ys => by
    simp only [List.map_cons, PyData.eqvAll, h x y, eqvAllL h xs ys]
    by_cases h1 : x = y
    · by_cases h2 : xs = ys
      · simp [h1, h2]
      · simp [h2]
    · simp [h1]
def dat_lst (d : Dat τ n) : Dat (yLst τ) (n + 1) where
  f := fun xs => .list (xs.map d.f)
  dec := @instDecidableEqList _ d.dec
  dp := fun h => by
    obtain ⟨a, vs, rfl, s, q⟩ := lst_sq h
    exact .lst s (dpAll (fun u x z => d.dp z) q)
  lay := fun xs => by simp only [PyData.canLay0]; exact layAll d.lay xs
  dpt := fun xs => by simp only [PyData.depth]; exact Nat.succ_le_succ (dptAll d.dpt xs)
  eqv := fun xs ys => by simp only [PyData.eqv]; exact @eqvAllL _ d.dec _ d.eqv xs ys
def dat_lsg (d : Dat τ n) : Dat (yLsg τ) (n + 1) where
  f := fun xs => .list (xs.map d.f)
  dec := @instDecidableEqList _ d.dec
  dp := fun h => by
    obtain ⟨a, vs, rfl, _, s, q⟩ := lsg_sq h
    exact .lst s (dpAll (fun u x z => by obtain ⟨Fi, ru, _⟩ := z; exact d.dp ru) q)
  lay := fun xs => by simp only [PyData.canLay0]; exact layAll d.lay xs
  dpt := fun xs => by simp only [PyData.depth]; exact Nat.succ_le_succ (dptAll d.dpt xs)
  eqv := fun xs ys => by simp only [PyData.eqv]; exact @eqvAllL _ d.dec _ d.eqv xs ys
def dat_tupl (d : Dat τ n) : Dat (yTupL τ) (n + 1) where
  f := fun xs => .tuple (xs.map d.f)
  dec := @instDecidableEqList _ d.dec
  dp := fun h => by
    obtain ⟨a, vs, rfl, s, q⟩ := tupl_sq h
    exact .tup s (dpAll (fun u x z => d.dp z) q)
  lay := fun xs => by simp only [PyData.canLay0]; exact layAll d.lay xs
  dpt := fun xs => by simp only [PyData.depth]; exact Nat.succ_le_succ (dptAll d.dpt xs)
  eqv := fun xs ys => by simp only [PyData.eqv]; exact @eqvAllL _ d.dec _ d.eqv xs ys
end
structure Sat {α : Type} (ts : Tys α) (n : Nat) where
  f : α → List PyData
  dec : DecidableEq α
  dp : ∀ {K : PySem.W.Frag} {H : Hp} {F : List Addr} {vs : List V} {d : α}, ts.rep K H F vs d → DpAll K H vs (f d)
  lay : ∀ d, PyData.canLayAll0 (f d) = true
  dpt : ∀ d, PyData.depthAll (f d) ≤ n
  eqv : ∀ d e, PyData.eqvAll (f d) (f e) = decide (d = e)
section
variable {α β : Type} {τ : Ty α} {ts : Tys β} {n m : Nat}
def sat_one (d : Dat τ n) : Sat (sOne τ) n where
  f := fun x => [d.f x]
  dec := d.dec
  dp := fun h => by obtain ⟨v, rfl, r⟩ := h; exact .cons (d.dp r) .nil
  lay := fun x => by simp [PyData.canLayAll0, d.lay x]
  dpt := fun x => by simp only [PyData.depthAll]; exact Nat.max_le.mpr ⟨d.dpt x, Nat.zero_le _⟩
  eqv := fun x y => by simp [PyData.eqvAll, d.eqv x y]
def sat_cons (d : Dat τ n) (s : Sat ts m) : Sat (sCons τ ts) (max n m) where
  f := fun x => d.f x.1 :: s.f x.2
  dec := @instDecidableEqProd _ _ d.dec s.dec
  dp := fun h => by obtain ⟨v, ws, F1, F2, rfl, _, r, q⟩ := h; exact .cons (d.dp r) (s.dp q)
  lay := fun x => by simp [PyData.canLayAll0, d.lay x.1, s.lay x.2]
  dpt := fun x => by
    simp only [PyData.depthAll]
    have h1 := d.dpt x.1
    have h2 := s.dpt x.2
    omega
  eqv := fun x y => by
    obtain ⟨x1, x2⟩ := x
    obtain ⟨y1, y2⟩ := y
    letI := d.dec
    letI := s.dec
    simp only [PyData.eqvAll, d.eqv x1 y1, s.eqv x2 y2]
    by_cases h1 : x1 = y1
    · by_cases h2 : x2 = y2
      · subst h1 h2; simp
      · have : ¬ ((x1, x2) = (y1, y2)) := fun e => h2 (Prod.mk.inj e).2
        simp only [h2, decide_false, Bool.and_false]
        exact (decide_eq_false this).symm
    · have : ¬ ((x1, x2) = (y1, y2)) := fun e => h1 (Prod.mk.inj e).1
      simp only [h1, decide_false, Bool.false_and]
      exact (decide_eq_false this).symm
def dat_tup (s : Sat ts m) : Dat (yTup ts) (m + 1) where
  f := fun x => .tuple (s.f x)
  dec := s.dec
  dp := fun h => by obtain ⟨a, vs, rfl, sq, q⟩ := h; exact .tup sq (s.dp q)
  lay := fun x => by simp only [PyData.canLay0]; exact s.lay x
  dpt := fun x => by simp only [PyData.depth]; exact Nat.succ_le_succ (s.dpt x)
  eqv := fun x y => by simp only [PyData.eqv]; exact s.eqv x y
end
section
variable {X : Cx} {K : PySem.W.Frag} {H : Hp} {F1 F2 : List Addr} {v u : V} {α : Type} {τ : Ty α} {Q : VK} {n : Nat} {x y : α}
theorem op_eq_d {K : PySem.W.Frag} (hu : X.A.units + 64 < cLine) (e : X.K = K := by rfl) : OpR X (compareOp .Eq) (rEqD K) := by subst e; exact op_eqD hu
theorem op_ne_d {K : PySem.W.Frag} (hu : X.A.units + 64 < cLine) (e : X.K = K := by rfl) : OpR X (compareOp .NotEq) (rNeD K) := by subst e; exact op_neD hu
theorem Dat.shaped (d : Dat τ n) (hn : n ≤ 64) (x : α) : SeqAt.shaped (d.f x) = true := by
  unfold SeqAt.shaped
  rw [d.lay x, decide_eq_true (Nat.le_trans (d.dpt x) hn)]
  rfl
theorem w_eqD [i : DecidableEq α] (d : Dat τ n) (r : τ.rep K H F1 v x) (q : τ.rep K H F2 u y) (k : Q (.bl (decide (x = y))) H) (hn : n ≤ 64 := by decide) : rEqD K v u H Q :=
  ⟨_, _, d.dp r, d.dp q, d.shaped hn x, d.shaped hn y, by
    have e : @decide (x = y) (d.dec x y) = @decide (x = y) (i x y) := by congr
    rw [d.eqv, e]; exact k⟩
theorem w_neD [i : DecidableEq α] (d : Dat τ n) (r : τ.rep K H F1 v x) (q : τ.rep K H F2 u y) (k : Q (.bl (!decide (x = y))) H) (hn : n ≤ 64 := by decide) : rNeD K v u H Q :=
  ⟨_, _, d.dp r, d.dp q, d.shaped hn x, d.shaped hn y, by
    have e : @decide (x = y) (d.dec x y) = @decide (x = y) (i x y) := by congr
    rw [d.eqv, e]; exact k⟩
end
end G
namespace G
open PySem PySem.Spec PyProof.Rows L2
section
variable {K : PySem.W.Frag} {σ σ' : L2.St} {H : Hp} {F F1 F2 Fu : List Addr} {ta tb te : TE} {v u x y : V} {i j : Int} {α β : Type} {τ : Ty α} {υ : Ty β} {Q : VK} {D : Ends} {t1 t2 : TS} {g : TG} {ws : List Nat}
theorem lsg_nil {p : Addr} {υ : Ty β} (r : (yLst υ).rep K H [p] (.ref p) []) : (yLsg τ).rep K H [p] (.ref p) [] := by
  obtain ⟨a, vs, e, f, g, q⟩ := r
  obtain rfl := V.ref.inj e
  cases q
  exact ⟨p, [], [], rfl, rfl, List.not_mem_nil, g, fun b h => absurd h List.not_mem_nil, Paired.nil⟩
theorem e_appG {D : Addr} {N : Hp → Prop} {xs ys : List α} {d : α} (r : (yLsg τ).rep K H F (.ref D) xs) (ru : τ.rep K H Fu u d) (ap : ∀ p, V.ref D = .ref p → p ∉ Fu) (hm : Mi.app xs d = some ys)
    (k : ∀ H' F', Chg F H H' → (yLsg τ).rep K H' F' (.ref D) ys → Sub F F' → Sub F' (F ++ Fu) → N H') : AppG D N u H := by
  have h := m_appG (Q := fun _ H' => N H') r ru ap hm k
  obtain ⟨l, xs', y, e, e2, g, hz, q⟩ := h
  obtain rfl := V.ref.inj e
  obtain rfl : u = y := by simpa using e2
  exact ⟨xs', g, hz, q⟩
theorem enumF_at {α : Type} : ∀ (k : Int) (xs : List α) (i : Nat) {x : α}, xs[i]? = some x → (Mi.enumF k xs)[i]? = some (k + i, x)
  | _, [], _, _, h => by simp at h
  | k, y :: ys, 0, x, h => by
    obtain rfl : y = x := by simpa using h
    show some (k, y) = some (k + ((0 : Nat) : Int), y)
    rw [show k + ((0 : Nat) : Int) = k by omega]
  | k, y :: ys, i + 1, x, h => by
    show (Mi.enumF (k + 1) ys)[i]? = _
    rw [enumF_at (k + 1) ys i (by simpa using h)]
    congr 2
    omega
theorem enumF_len {α : Type} : ∀ (k : Int) (xs : List α), (Mi.enumF k xs).length = xs.length
  | _, [] => rfl
  | k, _ :: ys => by show (Mi.enumF (k + 1) ys).length + 1 = ys.length + 1; rw [enumF_len]
theorem w_iEnum {ts : TA} {R : It → Hp → Prop} (h : ts σ H fun vs H1 => ∃ a xs, vs = [.ref a] ∧ SqL K H1 a xs ∧ R (Ite K a) H1) : iEnum K ts σ H R := h
theorem l_enum {tb : TS} {nx : L2.St → Hp → Prop} {xs : List α} {i1 i2 : Nat} (r : (yLst τ).rep K H F v xs) (Pv : Nat → L2.St → Hp → Prop) (h0 : Pv 0 σ H) (hl : ∀ i σ' H', Pv i σ' H' → (yLst τ).rep K H' F v xs)
    (hs : ∀ (i : Nat) (x : Int × α) (u : V) σ' H' H2, (Mi.enumF 0 xs)[i]? = some x → Chg [] H' H2 → τ.rep K H2 [] u x.2 → Pv i σ' H' → tb { D with nx := Pv (i + 1), ct := Pv (i + 1), bk := nx } ((σ'.set i1 (some (.int x.1))).set i2 (some u)) H2) (hd : ∀ σ' H', Pv (Mi.enumF 0 xs).length σ' H' → nx σ' H') :
    ∃ a xs, [v] = [.ref a] ∧ SqL K H a xs ∧ LoopG (Ite K a) (gTup K 2 (gCons (gName i1) (gCons (gName i2) gNil))) tb D nx σ H := by
  obtain ⟨a, vs, rfl, s, q⟩ := lst_sq r
  refine ⟨a, vs, rfl, s, fun i m σ' H' => m = xs.length - i ∧ i ≤ xs.length ∧ Pv i σ' H', ⟨xs.length, by omega, Nat.zero_le _, h0⟩, ?_⟩
  rintro i m σ' H' ⟨rfl, hi, p⟩
  obtain ⟨a', vs', e', s', q'⟩ := lst_sq (hl i σ' H' p)
  obtain rfl := V.ref.inj e'
  by_cases hlt : i < xs.length
  · obtain ⟨u, hu, ru⟩ := pr_get q' (List.getElem?_eq_getElem hlt)
    refine .inr ⟨⟨vs', u, s', hu⟩, Pv (i + 1), fun σ2 H2 p' => ⟨xs.length - (i + 1), by omega, rfl, hlt, p'⟩, fun x H2 y => ?_⟩
    obtain ⟨T, w, rfl, nT, rfl, y⟩ := y
    obtain rfl : w = u := Option.some.inj ((y _ s').symm.trans hu)
    have hx := enumF_at 0 xs i (List.getElem?_eq_getElem hlt)
    have c : Chg [] H' (upd H' T (.tup [.int (i : Nat), w])) := Chg.new nT
    have h := hs i _ w σ' H' _ hx c (Ty.ex ru c) p
    have e0 : (0 : Int) + (i : Int) = (i : Int) := Int.zero_add _
    rw [e0] at h
    exact ⟨T, _, rfl, .inl (.inl upd_same), rfl, _, _, rfl, _, _, rfl, rfl, h⟩
  · obtain rfl : i = xs.length := by omega
    exact .inl ⟨⟨vs', s', by rw [pr_len q']; exact Nat.le_refl _⟩, hd σ' H' (by rw [enumF_len]; exact p)⟩
end
end G
namespace G
theorem of_guard {p : Prop} [Decidable p] {u : Unit} (h : Mi.guardO (decide p) = some u) : p := by
  unfold Mi.guardO at h
  split at h
  · exact of_decide_eq_true (by assumption)
  · cases h
end G

/-! ### enumerate over a tuple -/
namespace PySem
open Sem (wp)
theorem enumT_meets (l : Addr) (its : Array Value) :
    Meets (Builtin.«enumerate.__new__» ⟨[.type "enumerate", .ref l], []⟩) (fun _ R s => s.heap.IsTuple l its ∧
      R (.ok (.ret (.ref (s.heap.push { cls := .type "tuple_iterator", data := .fields #[.ref l, .int 0 0] }).objs.size)))
        { s with heap := (s.heap.push { cls := .type "tuple_iterator", data := .fields #[.ref l, .int 0 0] }).push { cls := .type "enumerate", data := .fields #[.none, .bool false, .ref s.heap.objs.size, rawInt 0, .none, .none] } }) :=
  .of_wp fun prog w A R s hz => by
    obtain ⟨hp, gl, d, tk, os⟩ := s
    obtain ⟨hT, hz⟩ := hz
    have hsb := sub_enumerate
    have ht : Heap.IsTuple (Shared.heap ⟨hp, gl, d, tk, os⟩) l its := hT
    wp_walk
    refine wpAny_stack_any fun stk => wpAny_pure ?_
    split
    · rename_i c _ _ _ _ _
      cases (c == Value.type "enumerate")
      all_goals (wp_walk using wpAny_pyIter_tuple ht; exact ⟨_, rfl, hz⟩)
    · (wp_walk using wpAny_pyIter_tuple ht); exact ⟨_, rfl, hz⟩
section
variable {prog : Program} {w : World} {A : Around} {E : Value → Shared → Prop} {s : Shared}
theorem enumT_call {l : Addr} {its : Array Value} {Q : Value → Shared → Prop} (hL : s.heap.IsTuple l its)
    (k : ∀ h', IsEnum h' (s.heap.objs.size + 1) s.heap.objs.size 0 .none → h'.IsTupleIter s.heap.objs.size l 0 → h'.objs.size = s.heap.objs.size + 2 →
      (∀ b o, s.heap.get? b = some o → h'.get? b = some o) → Q (.ref (s.heap.objs.size + 1)) { s with heap := h' }) :
    wpAny (model prog w) A (call (.type "enumerate") [.ref l]) Q E s := by
  refine callType_new F.called_enumerate (by decide) (F.typeCall_enumerate_1 _) (F.newCall_enumerate_1 _) (fun ob => F.args_object_init_2 ob _) F.entry_enumerate_new (enumT_meets l its) ⟨hL, ?_⟩
  have sz : (s.heap.push { cls := .type "tuple_iterator", data := .fields #[.ref l, .int 0 0] }).objs.size = s.heap.objs.size + 1 := Heap.size_push ..
  show _ ∧ _
  rw [sz]
  have en : IsEnum ((s.heap.push { cls := .type "tuple_iterator", data := .fields #[.ref l, .int 0 0] }).push
      { cls := .type "enumerate", data := .fields #[.none, .bool false, .ref s.heap.objs.size, rawInt 0, .none, .none] }) (s.heap.objs.size + 1) s.heap.objs.size 0 .none := by
    have z := Heap.get?_push_size (s.heap.push { cls := .type "tuple_iterator", data := .fields #[.ref l, .int 0 0] })
      (o := { cls := .type "enumerate", data := .fields #[.none, .bool false, .ref s.heap.objs.size, rawInt 0, .none, .none] }) rfl
    rw [sz] at z; exact z
  exact ⟨⟨_, en, rfl⟩, k _ en ⟨_, Heap.get?_push_of_some _ (Heap.get?_push_size _ rfl), rfl, rfl⟩ (by rw [Heap.size_push, sz]) fun b o x => Heap.get?_push_of_some _ (Heap.get?_push_of_some _ x)⟩
end
end PySem
namespace L2
open PySem PySem.Spec PyProof.Rows
/-- the tuple at a, each item in a new pair -/
def ItT (K : PySem.W.Frag) (a : Addr) : It :=
  ⟨fun i H => ∃ (xs : List V) (x : V), SqT K H a xs ∧ xs[i]? = some x, fun i H v H' => ∃ T x, v = .ref T ∧ H T = none ∧ H' = upd H T (.tup [.int (i : Nat), x]) ∧ ∀ xs, SqT K H a xs → xs[i]? = some x, fun i H => ∃ xs : List V, SqT K H a xs ∧ xs.length ≤ i⟩
theorem turn_enumT {P : Program} {w : World} {K : PySem.W.Frag} {elts : List Expr} {kk : Nat} {tpos : Pos} (a e it : Addr) :
    Turn P w K (.Tuple elts kk tpos) (ItT K a) [e, it] e (fun i h => (∃ old, IsEnum h e it ((i : Nat) : Int) old) ∧ h.IsTupleIter it a i ∧ e ≠ it) where
  mem := by simp
  obj := fun i h st b hb => by
    obtain ⟨⟨old, he⟩, ⟨o, ho, hc, hd⟩, _⟩ := st
    rcases (show b = e ∨ b = it by simpa using hb) with z | z
    · rw [z]; exact ⟨_, he, fun v q => nomatch q⟩
    · rw [z]; exact ⟨o, ho, fun v q => by rw [hd] at q; cases q⟩
  keep := fun i h h' st k => let ⟨⟨old, he⟩, hi, hne⟩ := st; ⟨⟨old, k e (by simp) _ he⟩, hi.at fun o q => k it (by simp) o q, hne⟩
  item := by
    intro X hP hw hK hc i pins s σ H E I hf st hg
    subst hP hw hK
    obtain ⟨⟨old, hen⟩, hit, hne⟩ := st
    obtain ⟨xs, x, hsq, hx⟩ := hg
    obtain ⟨its, rv, pT, _⟩ := I.tuple hsq
    obtain ⟨u, hu, ru⟩ := rv.get hx
    have hel : e < s.heap.objs.size := Heap.lt_size hen
    have hil : it < s.heap.objs.size := by obtain ⟨_, q, _⟩ := hit; exact Heap.lt_size q
    have hT : s.heap.IsTuple a its.toArray := pT
    have hai : a ≠ it := fun z => by
      obtain ⟨o1, e1, c1, _⟩ := hT
      obtain ⟨o2, e2, c2, _⟩ := hit
      rw [z, e2] at e1
      cases e1
      rw [c1] at c2
      exact absurd c2 (by decide)
    have hea : e ≠ a := fun z => by
      obtain ⟨o1, e1, c1, _⟩ := hT
      rw [← z] at e1
      have z2 : s.heap.get? e = _ := hen
      rw [z2] at e1
      cases e1
      exact absurd (show (Value.type "enumerate" : Value) = .type "tuple" from c1) (by decide)
    have hD := Draws.tuple (prog := X.prog) (w := X.w) (A := X.A.in1) (I.ok.hd hc) it a hai its.toArray
    refine wpAny_pyNext_enum_itemD hD hen ⟨hit, hT⟩ (by have := (List.getElem?_eq_some_iff.mp hu).1; simpa using this) hne (by simp [hne, hea]) fun y h' tk hy ho st' hT1 hsz hk => ?_
    obtain rfl : u = y := by
      have hy' : its.toArray[i]? = some y := hy
      rw [List.getElem?_toArray, hu] at hy'
      exact Option.some.inj hy'
    refine ⟨_, rfl, wpAny_letOwnedTupleGo_enum (s := { s with heap := h', toks := tk + 1 }) ho fun h2 he2 sb => ?_⟩
    have hT2 : h2.get? s.heap.objs.size = some { cls := .type "tuple", data := .seq #[.int i tk, u] } := (sb.2 _ (Nat.ne_of_gt hel)).trans hT1
    have nw : ObjOk X.prog X.w (upd H s.heap.objs.size (.tup [.int (i : Nat), x])) h2 s.heap.objs.size (.tup [.int (i : Nat), x]) :=
      ⟨by show 2 ≤ sizeLine; decide, [.int i tk, u], .cons ⟨_, rfl⟩ (.cons ru .nil), ⟨_, hT2, rfl, _, rfl⟩⟩
    have I1 : Inv X pins σ (upd H s.heap.objs.size (.tup [.int (i : Nat), x])) { s with heap := h2, toks := tk + 1 } :=
      I.turnedNew (ch := [e, it]) (fun b ob hb q => (sb.2 b (fun z => hb (by simp [z]))).trans (hk b ob (fun z => hb (by simp [z])) (fun z => hb (by simp [z])) q)) hf (Nat.le_refl _) nw
    refine ⟨.ref s.heap.objs.size, _, I1, rfl, ⟨_, x, rfl, I.hok.fresh (Nat.le_refl _), rfl, fun ys hy => by rw [I.tuple_inj hy hsq]; exact hx⟩, ⟨⟨u, ?_⟩, st'.1.at fun o q => (sb.2 it (Ne.symm hne)).trans q, hne⟩, fun b hb => ?_⟩
    · rw [show ((i + 1 : Nat) : Int) = (i : Int) + 1 by omega]; exact he2
    · have hb' : b < s.heap.objs.size := by
        rcases (show b = e ∨ b = it by simpa using hb) with z | z
        · rw [z]; exact hel
        · rw [z]; exact hil
      rw [upd_ne (Nat.ne_of_lt hb')]
      exact (hf b hb).1
  done := by
    intro X hP hw hK hc i pins s σ H E I hf st hg
    subst hP hw hK
    obtain ⟨⟨old, hen⟩, hit, hne⟩ := st
    obtain ⟨xs, hsq, hx⟩ := hg
    obtain ⟨its, rv, pT, _⟩ := I.tuple hsq
    obtain ⟨f0, f1, f2, f3, f4, f5⟩ := hf it (by simp)
    have hl := rv.length
    have hT : s.heap.IsTuple a its.toArray := pT
    have hai : a ≠ it := fun z => by
      obtain ⟨o1, e1, c1, _⟩ := hT
      obtain ⟨o2, e2, c2, _⟩ := hit
      rw [z, e2] at e1
      cases e1
      rw [c1] at c2
      exact absurd c2 (by decide)
    have hTy : s.TypeIs (.ref e) "enumerate" := ⟨_, hen, rfl⟩
    unfold pyNext
    refine wpAny_bind (wpAny_attempt (wpAny_callSpecial?_slot (name := Str.ofString "__next__") hTy F.slot_enumerate_next (wpAny_call_entry F.slot_enumerate_next hTy F.entry_enumerate_next ?_ (F.args_enumerate_next_1 _))))
    show wpAny _ _ (field (.ref e) 2 >>= _) _ _ _
    refine wpAny_bind (wpAny_field hen rfl (x := .ref it) rfl ?_)
    refine wpAny_bind (wpAny_nextOf_tuple_end (I.ok.hd hc) hit hT (by simp; omega) fun h' y eb hy => ?_)
    obtain ⟨o, ho, hcl⟩ := hy
    refine wpAny_bind (wpAny_isInstance (T := "StopIteration") (b := true) ⟨o, ho, hcl⟩ isSubtype_stop ?_)
    exact wpAny_pure ⟨rfl, I.turned (t' := s.toks) (fun b o hb q => eb b o hb q) f0 f1 f3 f4 f5⟩
  self := fun A i s Q E st h => let ⟨⟨_, he⟩, _⟩ := st; wpAny_pyIter_enum he h
def iEnumT (K : PySem.W.Frag) (ta : TA) : TI := fun σ H R => ta σ H fun vs H1 => ∃ a xs, vs = [.ref a] ∧ SqT K H1 a xs ∧ R (ItT K a) H1
theorem pi_enumT {X : Cx} {e : Expr} {ta : TA} {p pos tpos : Pos} {elts : List Expr} {kk : Nat} (hg : Gl X "enumerate") (hm : X.mg "enumerate" = none) (ha : PA X [e] ta) (hs : starEach [e] X.env = [(false, eval e X.env)] := by rfl) :
    PI X (.Tuple elts kk tpos) (.Call (.Name "enumerate" p) [e] [] pos) (iEnumT X.K ta) := by
  refine ⟨fun pins s σ H R I h => ?_⟩
  refine Call_ (ld_blt I hg hm boot_enumerate (PyProof.Rows.callWith_type1 (thn (ha.run pos pins s σ H _ I h) fun us s1 ⟨vs, H1, I1, r1, q1⟩ => ?_) hs rfl))
  obtain ⟨a, xs, rfl, hsq, q⟩ := q1
  cases r1 with
  | cons r rr =>
    cases rr
    cases r
    obtain ⟨its, rv, pT, _⟩ := I1.tuple hsq
    refine enumT_call (show s1.heap.IsTuple a its.toArray from pT) fun h' hen hit hsz hk => wpAny_pyIter_enum hen ?_
    have I2 : Inv X pins σ H1 { s1 with heap := h' } := I1.kept (t' := s1.toks) hk
    refine ⟨s1.heap.objs.size + 1, [s1.heap.objs.size + 1, s1.heap.objs.size], _, _, H1, rfl, I2, turn_enumT a (s1.heap.objs.size + 1) s1.heap.objs.size, ⟨⟨.none, hen⟩, hit, Nat.succ_ne_self _⟩, fun b hb => ?_, q⟩
    have hle : s1.heap.objs.size ≤ b := by
      rcases (show b = s1.heap.objs.size + 1 ∨ b = s1.heap.objs.size by simpa using hb) with z | z
      · rw [z]; exact Nat.le_add_right _ _
      · rw [z]; exact Nat.le_refl _
    exact I1.fpOk hle (I1.hok.fresh hle)
end L2
namespace G
open PySem PySem.Spec PyProof.Rows L2
section
variable {K : PySem.W.Frag} {σ σ' : L2.St} {H : Hp} {F F1 F2 Fu : List Addr} {ta tb te : TE} {v u x y : V} {i j : Int} {α β : Type} {τ : Ty α} {υ : Ty β} {Q : VK} {D : Ends} {t1 t2 : TS} {g : TG} {ws : List Nat}
theorem w_iEnumT {ts : TA} {R : It → Hp → Prop} (h : ts σ H fun vs H1 => ∃ a xs, vs = [.ref a] ∧ SqT K H1 a xs ∧ R (ItT K a) H1) : iEnumT K ts σ H R := h
theorem l_enumT {tb : TS} {nx : L2.St → Hp → Prop} {xs : List α} {i1 i2 : Nat} (r : (yTupL τ).rep K H F v xs) (Pv : Nat → L2.St → Hp → Prop) (h0 : Pv 0 σ H) (hl : ∀ i σ' H', Pv i σ' H' → (yTupL τ).rep K H' F v xs)
    (hs : ∀ (i : Nat) (x : Int × α) (u : V) σ' H' H2, (Mi.enumF 0 xs)[i]? = some x → Chg [] H' H2 → τ.rep K H2 [] u x.2 → Pv i σ' H' → tb { D with nx := Pv (i + 1), ct := Pv (i + 1), bk := nx } ((σ'.set i1 (some (.int x.1))).set i2 (some u)) H2) (hd : ∀ σ' H', Pv (Mi.enumF 0 xs).length σ' H' → nx σ' H') :
    ∃ a xs, [v] = [.ref a] ∧ SqT K H a xs ∧ LoopG (ItT K a) (gTup K 2 (gCons (gName i1) (gCons (gName i2) gNil))) tb D nx σ H := by
  obtain ⟨a, vs, rfl, s, q⟩ := tupl_sq r
  refine ⟨a, vs, rfl, s, fun i m σ' H' => m = xs.length - i ∧ i ≤ xs.length ∧ Pv i σ' H', ⟨xs.length, by omega, Nat.zero_le _, h0⟩, ?_⟩
  rintro i m σ' H' ⟨rfl, hi, p⟩
  obtain ⟨a', vs', e', s', q'⟩ := tupl_sq (hl i σ' H' p)
  obtain rfl := V.ref.inj e'
  by_cases hlt : i < xs.length
  · obtain ⟨u, hu, ru⟩ := pr_get q' (List.getElem?_eq_getElem hlt)
    refine .inr ⟨⟨vs', u, s', hu⟩, Pv (i + 1), fun σ2 H2 p' => ⟨xs.length - (i + 1), by omega, rfl, hlt, p'⟩, fun x H2 y => ?_⟩
    obtain ⟨T, w, rfl, nT, rfl, y⟩ := y
    obtain rfl : w = u := Option.some.inj ((y _ s').symm.trans hu)
    have hx := enumF_at 0 xs i (List.getElem?_eq_getElem hlt)
    have c : Chg [] H' (upd H' T (.tup [.int (i : Nat), w])) := Chg.new nT
    have h := hs i _ w σ' H' _ hx c (Ty.ex ru c) p
    have e0 : (0 : Int) + (i : Int) = (i : Int) := Int.zero_add _
    rw [e0] at h
    exact ⟨T, _, rfl, .inl (.inl upd_same), rfl, _, _, rfl, _, _, rfl, rfl, h⟩
  · obtain rfl : i = xs.length := by omega
    exact .inl ⟨⟨vs', s', by rw [pr_len q']; exact Nat.le_refl _⟩, hd σ' H' (by rw [enumF_len]; exact p)⟩
end
end G

namespace G
open PySem PySem.Spec PyProof.Rows L2
section
variable {K : PySem.W.Frag} {σ σ' : L2.St} {H : Hp} {F F1 F2 Fu : List Addr} {ta tb te : TE} {v u x y : V} {i j : Int} {α β : Type} {τ : Ty α} {υ : Ty β} {Q : VK} {D : Ends} {t1 t2 : TS} {g : TG} {ws : List Nat}
theorem st_eq {t : TS} (e : σ = σ') (h : t D σ' H) : t D σ H := e ▸ h
theorem m_popAtG {xs : List α} {p : α × List α} (r : (yLsg τ).rep K H F v xs) (hm : Mi.popAt xs i = some p) (hb : xs.length ≤ Mi.big)
    (k : ∀ u H' Fi, Chg F H H' → τ.rep K H' Fi u p.1 → Sub Fi F → (yLsg τ).rep K H' F v p.2 → Q u H') : rPopAt v [.int i] H Q := by
  obtain ⟨l, vs, G, rfl, rfl, na, g, dm, q⟩ := r
  unfold Mi.popAt at hm
  obtain ⟨j, hj, hm⟩ := Mi.bnd hm
  obtain ⟨y, hy, hm⟩ := Mi.bnd hm
  obtain rfl := Option.some.inj hm
  obtain ⟨u, hu, Fi, ru, sb⟩ := pr_get q hy
  have c : Chg [l] H (upd H l (.lst (vs.eraseIdx j))) := Chg.wr g (fun z => z)
  have kp : ∀ {γ : Type} {ρ : Ty γ} {Fi : List Addr} {w : V} {e : γ}, ρ.rep K H Fi w e → l ∉ Fi → ρ.rep K (upd H l (.lst (vs.eraseIdx j))) Fi w e := fun rr hn => Ty.chg rr c fun b hb z => by
    rw [List.mem_singleton] at z; subst z; exact hn hb
  obtain ⟨h1, h2, h3, h4⟩ := ixN_seq (show L2.ixN vs.length i = some j by rw [pr_len q]; exact hj)
  have hb2 : vs.length ≤ 1000000 := by rw [pr_len q]; exact hb
  refine ⟨l, vs, i, j, u, rfl, rfl, g, by omega, by omega, h1, hu, k u _ Fi (c.mono fun b hb => by rw [List.mem_singleton] at hb; subst hb; exact List.mem_cons_self ..) (kp ru fun hp => na (sb l hp)) (fun b hb => List.mem_cons_of_mem _ (sb b hb)) ⟨l, _, G, rfl, rfl, na, upd_same, fun b hb => ?_, Paired.mapP (pr_erase q j) fun w e z => ?_⟩⟩
  · obtain ⟨o, ho, hf⟩ := dm b hb
    have hbl : b ≠ l := fun z => by subst z; exact na hb
    exact ⟨o, by rw [upd_ne hbl]; exact ho, hf⟩
  · obtain ⟨Fi, rr, s2⟩ := z
    exact ⟨Fi, kp rr fun hp => na (s2 l hp), s2⟩
end
end G
namespace G
open PySem PySem.Spec PyProof.Rows L2
theorem pe_fldk {X : Cx} {K : PySem.W.Frag} {e : Expr} {f : Str} {pos : Pos} {ta : TE} (he : PE X e ta) (hb : attributeBase e f X.env (eval e X.env) = eval e X.env) (hk : X.K = K := by rfl) : PE X (.Attribute e f pos) (tFld K ta f) := by
  subst hk; exact pe_fld he hb
end G

namespace G
open PySem PySem.Spec PyProof.Rows L2
/-! ### texts -/
theorem toS_len (l : List Nat) : (toS l).length = l.length := by simp [toS, Str.length]
theorem toS_tl (l : List Nat) : (toS l).cps.toList = l := by simp [toS]
theorem toS_inj {a b : List Nat} (h : toS a = toS b) : a = b := by rw [← toS_tl a, h, toS_tl]
theorem toS_of {x : Str} {l : List Nat} (h : x.cps.toList = l) : x = toS l := by
  obtain ⟨c⟩ := x
  show Str.mk c = Str.mk l.toArray
  congr 1
  rw [← h]
theorem toS_app (a b : List Nat) : toS a ++ toS b = toS (a ++ b) := toS_of (by
  refine (TL.tl_append (toS a) (toS b)).trans ?_
  show (toS a).cps.toList ++ (toS b).cps.toList = _
  rw [toS_tl, toS_tl])
theorem dTx {a b : List Nat} : decide (V.str (toS a) = V.str (toS b)) = decide (a = b) := by
  by_cases h : a = b
  · subst h; simp
  · rw [decide_eq_false h, decide_eq_false]
    intro z
    exact h (toS_inj (V.str.inj z))
theorem bigS {n : Nat} (h : n ≤ Mi.big) : n ≤ sizeLine := Nat.le_trans h (by decide)
section
variable {X : Cx} {K : PySem.W.Frag} {σ σ' : L2.St} {H : Hp} {F F1 F2 Fu : List Addr} {ta tb te to : TE} {v u x y : V} {i j : Int} {α β : Type} {τ : Ty α} {υ : Ty β} {Q : VK} {D : Ends} {g : TG} {ws : List Nat} {a b c : List Nat} {t tu tt : TT}
theorem val_cS {s : Str} (h : s = toS a) : Val (tC (.str s)) σ H (.str (toS a)) := by subst h; exact val_c
theorem val_eqS (ha : Val ta σ H (.str (toS a))) (hb : Val tb σ H (.str (toS b))) : Val (tOp rEq ta tb) σ H (.bl (decide (a = b))) := val_op ha hb fun Q q => ⟨rfl, by rw [dTx]; exact q⟩
theorem val_neS (ha : Val ta σ H (.str (toS a))) (hb : Val tb σ H (.str (toS b))) : Val (tOp rNe ta tb) σ H (.bl (!decide (a = b))) := val_op ha hb fun Q q => ⟨rfl, by rw [dTx]; exact q⟩
theorem w_eqS (k : Q (.bl (decide (a = b))) H) : rEq (.str (toS a)) (.str (toS b)) H Q := ⟨rfl, by rw [dTx]; exact k⟩
theorem w_neS (k : Q (.bl (!decide (a = b))) H) : rNe (.str (toS a)) (.str (toS b)) H Q := ⟨rfl, by rw [dTx]; exact k⟩
/-- len -/
def rLenT : List V → Hp → VK → Prop := fun xs H Q => ∃ z, xs = [.str z] ∧ z.length ≤ sizeLine ∧ Q (.int z.length) H
theorem cl_lenTx : CallR X (.builtin "len") rLenT := call_len_str
theorem w_lenTx {n : Int} (hm : Mi.sLen a = some n) (k : Q (.int n) H) : rLenT [.str (toS a)] H Q := by
  unfold Mi.sLen at hm
  split at hm
  · obtain rfl := Option.some.inj hm
    exact ⟨_, rfl, by rw [toS_len]; exact bigS (by assumption), by rw [toS_len]; exact k⟩
  · cases hm
theorem val_lenTx {n : Int} (hm : Mi.sLen a = some n) (ha : Val ta σ H (.str (toS a))) : Val (tCB rLenT (tCons ta tNil)) σ H (.int n) := fun Q k => ha _ (w_lenTx hm k)
/-- s[i] -/
theorem w_ixS (hm : Mi.sAt a i = some b) (k : Q (.str (toS b)) H) : rIxS (.str (toS a)) (.int i) H Q := by
  unfold Mi.sAt at hm
  split at hm
  · cases e : Mi.at_ a i with
    | none => rw [e] at hm; cases hm
    | some z =>
      rw [e] at hm
      obtain rfl := Option.some.inj hm
      exact ⟨_, i, z, rfl, rfl, by rw [toS_len]; exact bigS (by assumption), by rw [toS_tl]; exact e, k⟩
  · cases hm
theorem val_ixS (hm : Mi.sAt a i = some b) (ha : Val ta σ H (.str (toS a))) (hb : Val tb σ H (.int i)) : Val (tOp rIxS ta tb) σ H (.str (toS b)) := val_op ha hb fun Q q => w_ixS hm q
/-- s + t -/
theorem op_catS : OpR X (binaryOp .Add) rAddS := op_add_str
theorem w_catS (hm : Mi.sCat a b = some c) (k : Q (.str (toS c)) H) : rAddS (.str (toS a)) (.str (toS b)) H Q := by
  unfold Mi.sCat at hm
  split at hm
  · obtain rfl := Option.some.inj hm
    exact ⟨_, _, rfl, rfl, by rw [toS_len, toS_len]; exact bigS (by assumption), by rw [toS_app]; exact k⟩
  · cases hm
theorem val_catS (hm : Mi.sCat a b = some c) (ha : Val ta σ H (.str (toS a))) (hb : Val tb σ H (.str (toS b))) : Val (tOp rAddS ta tb) σ H (.str (toS c)) := val_op ha hb fun Q q => w_catS hm q
/-- c in s -/
def rInC : R2 := fun x y H Q => ∃ (c : Nat) (z : Str), x = .str ⟨#[c]⟩ ∧ y = .str z ∧ Q (.bl (decide (c ∈ z.cps.toList))) H
def rNiC : R2 := fun x y H Q => ∃ (c : Nat) (z : Str), x = .str ⟨#[c]⟩ ∧ y = .str z ∧ Q (.bl (!decide (c ∈ z.cps.toList))) H
theorem op_in_c : OpR X (compareOp .In) rInC := op_in_sign
theorem op_ni_c : OpR X (compareOp .NotIn) rNiC := op_notIn_sign
theorem sIn_some {k : Bool} (hm : Mi.sIn a b = some k) : ∃ c, a = [c] ∧ decide (c ∈ b) = k := by
  match a, hm with
  | [c], hm => exact ⟨c, rfl, by rw [← List.contains_eq_mem]; exact Option.some.inj hm⟩
theorem w_inC {k : Bool} (hm : Mi.sIn a b = some k) (q : Q (.bl k) H) : rInC (.str (toS a)) (.str (toS b)) H Q := by
  obtain ⟨c, rfl, e⟩ := sIn_some hm
  exact ⟨c, _, rfl, rfl, by rw [toS_tl, e]; exact q⟩
theorem w_niC {k : Bool} (hm : Mi.sIn a b = some k) (q : Q (.bl (!k)) H) : rNiC (.str (toS a)) (.str (toS b)) H Q := by
  obtain ⟨c, rfl, e⟩ := sIn_some hm
  exact ⟨c, _, rfl, rfl, by rw [toS_tl, e]; exact q⟩
theorem val_inC {k : Bool} (hm : Mi.sIn a b = some k) (ha : Val ta σ H (.str (toS a))) (hb : Val tb σ H (.str (toS b))) : Val (tOp rInC ta tb) σ H (.bl k) := val_op ha hb fun Q q => w_inC hm q
theorem val_niC {k : Bool} (hm : Mi.sIn a b = some k) (ha : Val ta σ H (.str (toS a))) (hb : Val tb σ H (.str (toS b))) : Val (tOp rNiC ta tb) σ H (.bl (!k)) := val_op ha hb fun Q q => w_niC hm q
/-- s[lo:hi] -/
theorem sIx_eq (n d : Nat) (o : Option Int) : HT.sIx n d o = Mi.sIx n d o := by
  cases o <;> rfl
theorem w_cutS {lo hi : Option Int} (hm : Mi.sCut a lo hi = some b) (k : Q (.str (toS b)) H) : rSlS (.str (toS a)) lo hi H Q := by
  unfold Mi.sCut at hm
  split at hm
  · obtain rfl := Option.some.inj hm
    refine ⟨_, rfl, by rw [toS_len]; exact bigS (by assumption), ?_⟩
    have e : cutS (toS a) lo hi = toS (Mi.cut a lo hi) := by
      unfold cutS
      rw [toS_tl, toS_len, sIx_eq, sIx_eq]
      rfl
    rw [e]; exact k
  · cases hm
/-- sep.join(xs) -/
def rJoinQ (K : PySem.W.Frag) : V → List V → Hp → VK → Prop := fun x xs H Q => ∃ a p, ∃ ys : List Str, x = .str a ∧ xs = [.ref p] ∧ (SqL K H p (ys.map V.str) ∨ SqT K H p (ys.map V.str)) ∧ (ys.map (·.length)).sum + ys.length * a.length ≤ 16777216 ∧ Q (.str (Txt.join a ys)) H
theorem pe_joinQ {K : PySem.W.Frag} {o e : Expr} {apos pos : Pos} (ho : PE X o to) (he : PE X e te) (hk : X.K = K := by rfl) (hs : starEach [e] X.env = [(false, eval e X.env)] := by rfl) (hbase : attributeBase o "join" X.env (eval o X.env) = eval o X.env := by rfl) (hline : (apos.endLine == pos.line) = true := by rfl) :
    PE X (.Call (.Attribute o "join" apos) [e] [] pos) (tM1 (rJoinQ K) to te) := by subst hk; exact pe_join ho he hs hbase hline
theorem joinL_eq (s : List Nat) : ∀ xs : List (List Nat), TL.joinL s xs = Mi.joinL s xs
  | [] => rfl
  | [_] => rfl
  | p :: q :: r => by
    show p ++ (s ++ TL.joinL s (q :: r)) = p ++ (s ++ Mi.joinL s (q :: r))
    rw [joinL_eq s (q :: r)]
theorem strs_mk : ∀ {vs : List V} {xs : List (List Nat)}, Paired (fun u d => yStr.rep K H [] u d) vs xs → vs = (xs.map toS).map V.str
  | _, _, .nil => rfl
  | _, _, .cons r t => by rw [r.2, strs_mk t]; rfl
theorem w_joinL {xs : List (List Nat)} {sep out : List Nat} (r : (yLst yStr).rep K H F v xs) (hm : Mi.sJoin sep xs = some out) (k : Q (.str (toS out)) H) : rJoinQ K (.str (toS sep)) [v] H Q := by
  obtain ⟨p, vs, rfl, s, q⟩ := lst_sq r
  obtain rfl := strs_mk q
  unfold Mi.sJoin at hm
  split at hm
  · rename_i hz
    obtain rfl := Option.some.inj hm
    refine ⟨_, p, xs.map toS, rfl, rfl, .inl s, ?_, ?_⟩
    · rw [List.map_map, List.length_map, toS_len]
      have e : ((fun x : Str => x.length) ∘ toS) = fun l : List Nat => l.length := by funext l; exact toS_len l
      rw [e]
      exact Nat.le_trans hz (by decide)
    · have e : Txt.join (toS sep) (xs.map toS) = toS (Mi.joinL sep xs) := by
        rw [TL.join_eq]
        refine toS_of ?_
        refine (TL.tl_join (toS sep) (xs.map toS)).trans ?_
        rw [List.map_map]
        have e2 : (fun x : Str => x.cps.toList) ∘ toS = fun l : List Nat => l := by funext l; exact toS_tl l
        show TL.joinL (toS sep).cps.toList (xs.map ((fun x : Str => x.cps.toList) ∘ toS)) = _
        rw [e2, toS_tl, List.map_id', joinL_eq]
      rw [e]; exact k
  · cases hm
theorem w_m1 {r : V → List V → Hp → VK → Prop} (h : to σ H fun x H1 => (∃ a, x = .str a) ∧ te σ H1 fun y H2 => r x [y] H2 Q) : tM1 r to te σ H Q := h
/-- for c in s -/
theorem w_iStr {R : It → Hp → Prop} (h : te σ H fun v H1 => ∃ x, v = .str x ∧ R (Its x) H1) : iStr te σ H R := h
theorem signs_at {s : List Nat} {n c : Nat} (h : s[n]? = some c) : (Mi.signs s)[n]? = some [c] := by
  unfold Mi.signs
  rw [List.getElem?_map, h]; rfl
theorem signs_len (s : List Nat) : (Mi.signs s).length = s.length := List.length_map ..
theorem l_str {tb : TS} {nx : L2.St → Hp → Prop} (Pv : Nat → L2.St → Hp → Prop) (h0 : Pv 0 σ H)
    (hs : ∀ (i : Nat) (x : List Nat) σ' H', (Mi.signs a)[i]? = some x → Pv i σ' H' → g (.str (toS x)) σ' H' fun σ2 H2 => tb { D with nx := Pv (i + 1), ct := Pv (i + 1), bk := nx } σ2 H2) (hd : ∀ σ' H', Pv (Mi.signs a).length σ' H' → nx σ' H') :
    ∃ x, V.str (toS a) = .str x ∧ LoopG (Its x) g tb D nx σ H := by
  have ez : (toS a).cps.size = a.length := toS_len a
  refine ⟨_, rfl, fun i m σ' H' => m = a.length - i ∧ i ≤ a.length ∧ Pv i σ' H', ⟨a.length, by omega, Nat.zero_le _, h0⟩, ?_⟩
  rintro i m σ' H' ⟨rfl, hi, p⟩
  by_cases hlt : i < a.length
  · refine .inr ⟨by show i < (toS a).cps.size; omega, Pv (i + 1), fun σ2 H2 p' => ⟨a.length - (i + 1), by omega, rfl, hlt, p'⟩, fun x H2 y => ?_⟩
    obtain ⟨rfl, z, hz, rfl⟩ := y
    have hz' : a[i]? = some z := by
      have e : (toS a).cps.toList[i]? = some z := by rw [Array.getElem?_toList]; exact hz
      rw [toS_tl] at e; exact e
    exact hs i [z] σ' _ (signs_at hz') p
  · obtain rfl : i = a.length := by omega
    exact .inl ⟨by show (toS a).cps.size ≤ _; omega, hd σ' H' (by rw [signs_len]; exact p)⟩
theorem kc_str (Pv : Addr → Nat → Hp → Prop) (h0 : ∀ D H', H D = none → Chg [] H H' → (yLst τ).rep K H' [D] (.ref D) [] → Pv D 0 H')
    (hs : ∀ D (i : Nat) (x : List Nat) H', (Mi.signs a)[i]? = some x → Pv D i H' → TurnG g tt te ws σ D (Pv D (i + 1)) (.str (toS x)) H') (hd : ∀ D H', H D = none → Pv D (Mi.signs a).length H' → Q (.ref D) H') :
    ∃ x, V.str (toS a) = .str x ∧ CompG (Its x) g tt te ws σ H Q := by
  have ez : (toS a).cps.size = a.length := toS_len a
  refine ⟨_, rfl, comp_by (K := K) (τ := τ) a.length Pv h0 (fun D i H' hi p => ⟨by show i < (toS a).cps.size; omega, fun x H2 y => ?_⟩) (fun D H' hD p => ⟨by show (toS a).cps.size ≤ _; omega, hd D H' hD (by rw [signs_len]; exact p)⟩)⟩
  obtain ⟨rfl, z, hz, rfl⟩ := y
  have hz' : a[i]? = some z := by
    have e : (toS a).cps.toList[i]? = some z := by rw [Array.getElem?_toList]; exact hz
    rw [toS_tl] at e; exact e
  exact hs D i [z] _ (signs_at hz') p
/-- int of a bool -/
theorem val_intB {b : Bool} (ha : Val ta σ H (.bl b)) : Val (tCB rInt1 (tCons ta tNil)) σ H (.int (Mi.bI b)) := fun Q q => ha _ (.inr ⟨b, rfl, by cases b <;> exact q⟩)
theorem w_intB {b : Bool} (k : Q (.int (Mi.bI b)) H) : rInt1 [.bl b] H Q := .inr ⟨b, rfl, by cases b <;> exact k⟩
/-- isinstance of None or data -/
theorem val_isiO {n m : String} {b : Bool} {d : Option α} (ty : ∀ {F x}, τ.rep K H F v x → TyX K H v (.type n)) (r : (yOpt τ).rep K H F v d) (ha : Val ta σ H v) (h1 : kitB n m = some b) (h2 : kitB "NoneType" m = some false) : Val (tCB (rIsi K) (tCons ta (tCons (tC (.ty m)) tNil))) σ H (.bl (d.isSome && b)) := by
  cases d with
  | none =>
    obtain ⟨_, rfl⟩ := r
    exact val_isi ha ty_non h2
  | some x =>
    have := val_isi ha (ty r.2) h1
    rw [show ((some x).isSome && b) = b by cases b <;> rfl]
    exact this
theorem tyr_int {x : Int} (r : yInt.rep K H F v x) : TyX K H v (.type "int") := by obtain ⟨_, rfl⟩ := r; exact ty_int
theorem tyr_bool {x : Bool} (r : yBool.rep K H F v x) : TyX K H v (.type "bool") := by obtain ⟨_, rfl⟩ := r; exact ty_bl
theorem tyr_str {x : List Nat} (r : yStr.rep K H F v x) : TyX K H v (.type "str") := by obtain ⟨_, rfl⟩ := r; exact ty_str
end
/-! ### data with texts -/
structure DatO {α : Type} (τ : Ty α) (n : Nat) where
  f : α → PyData
  ok : α → Bool
  dec : DecidableEq α
  dp : ∀ {K : PySem.W.Frag} {H : Hp} {F : List Addr} {v : V} {d : α}, τ.rep K H F v d → Dp K H v (f d)
  lay : ∀ d, ok d = true → (f d).canLay0 = true
  dpt : ∀ d, (f d).depth ≤ n
  eqv : ∀ d e, PyData.eqv (f d) (f e) = decide (d = e)
def Dat.o {α : Type} {τ : Ty α} {n : Nat} (d : Dat τ n) : DatO τ n := ⟨d.f, fun _ => true, d.dec, d.dp, fun x _ => d.lay x, d.dpt, d.eqv⟩
def dao_str : DatO yStr 0 where
  f := fun l => .str (toS l)
  ok := Mi.okS
  dec := inferInstance
  dp := fun h => by obtain ⟨_, rfl⟩ := h; exact .str _
  lay := fun d h => by
    have e : (toS d).cps = d.toArray := rfl
    simp only [PyData.canLay0, PyData.strOk, e]
    unfold Mi.okS at h
    simpa using h
  dpt := fun d => by simp [PyData.depth]
  eqv := fun d e => by
    simp only [PyData.eqv]
    rw [beq_dec]
    by_cases h : d = e
    · subst h; simp
    · rw [decide_eq_false h, decide_eq_false]
      intro z; exact h (toS_inj z)
section
variable {α β : Type} {τ : Ty α} {n m : Nat}
theorem layAllO {f : α → PyData} {ok : α → Bool} (h : ∀ d, ok d = true → (f d).canLay0 = true) : ∀ xs : List α, xs.all ok = true → PyData.canLayAll0 (xs.map f) = true
  | [], _ => by simp [PyData.canLayAll0]
  | x :: xs, q => by
    rw [List.all_cons, Bool.and_eq_true] at q
    simp [PyData.canLayAll0, h x q.1, layAllO h xs q.2]
def dao_lst (d : DatO τ n) : DatO (yLst τ) (n + 1) where
  f := fun xs => .list (xs.map d.f)
  ok := fun xs => xs.all d.ok
  dec := @instDecidableEqList _ d.dec
  dp := fun h => by
    obtain ⟨a, vs, rfl, s, q⟩ := lst_sq h
    exact .lst s (dpAll (fun u x z => d.dp z) q)
  lay := fun xs h => by simp only [PyData.canLay0]; exact layAllO d.lay xs h
  dpt := fun xs => by simp only [PyData.depth]; exact Nat.succ_le_succ (dptAll d.dpt xs)
  eqv := fun xs ys => by simp only [PyData.eqv]; exact @eqvAllL _ d.dec _ d.eqv xs ys
def dao_lsg (d : DatO τ n) : DatO (yLsg τ) (n + 1) where
  f := fun xs => .list (xs.map d.f)
  ok := fun xs => xs.all d.ok
  dec := @instDecidableEqList _ d.dec
  dp := fun h => by
    obtain ⟨a, vs, rfl, _, s, q⟩ := lsg_sq h
    exact .lst s (dpAll (fun u x z => by obtain ⟨Fi, ru, _⟩ := z; exact d.dp ru) q)
  lay := fun xs h => by simp only [PyData.canLay0]; exact layAllO d.lay xs h
  dpt := fun xs => by simp only [PyData.depth]; exact Nat.succ_le_succ (dptAll d.dpt xs)
  eqv := fun xs ys => by simp only [PyData.eqv]; exact @eqvAllL _ d.dec _ d.eqv xs ys
def dao_tupl (d : DatO τ n) : DatO (yTupL τ) (n + 1) where
  f := fun xs => .tuple (xs.map d.f)
  ok := fun xs => xs.all d.ok
  dec := @instDecidableEqList _ d.dec
  dp := fun h => by
    obtain ⟨a, vs, rfl, s, q⟩ := tupl_sq h
    exact .tup s (dpAll (fun u x z => d.dp z) q)
  lay := fun xs h => by simp only [PyData.canLay0]; exact layAllO d.lay xs h
  dpt := fun xs => by simp only [PyData.depth]; exact Nat.succ_le_succ (dptAll d.dpt xs)
  eqv := fun xs ys => by simp only [PyData.eqv]; exact @eqvAllL _ d.dec _ d.eqv xs ys
end
structure SatO {α : Type} (ts : Tys α) (n : Nat) where
  f : α → List PyData
  ok : α → Bool
  dec : DecidableEq α
  dp : ∀ {K : PySem.W.Frag} {H : Hp} {F : List Addr} {vs : List V} {d : α}, ts.rep K H F vs d → DpAll K H vs (f d)
  lay : ∀ d, ok d = true → PyData.canLayAll0 (f d) = true
  dpt : ∀ d, PyData.depthAll (f d) ≤ n
  eqv : ∀ d e, PyData.eqvAll (f d) (f e) = decide (d = e)
section
variable {α β : Type} {τ : Ty α} {ts : Tys β} {n m : Nat}
def sao_one (d : DatO τ n) : SatO (sOne τ) n where
  f := fun x => [d.f x]
  ok := d.ok
  dec := d.dec
  dp := fun h => by obtain ⟨v, rfl, r⟩ := h; exact .cons (d.dp r) .nil
  lay := fun x h => by simp [PyData.canLayAll0, d.lay x h]
  dpt := fun x => by simp only [PyData.depthAll]; exact Nat.max_le.mpr ⟨d.dpt x, Nat.zero_le _⟩
  eqv := fun x y => by simp [PyData.eqvAll, d.eqv x y]
def sao_cons (d : DatO τ n) (s : SatO ts m) : SatO (sCons τ ts) (max n m) where
  f := fun x => d.f x.1 :: s.f x.2
  ok := fun x => d.ok x.1 && s.ok x.2
  dec := @instDecidableEqProd _ _ d.dec s.dec
  dp := fun h => by obtain ⟨v, ws, F1, F2, rfl, _, r, q⟩ := h; exact .cons (d.dp r) (s.dp q)
  lay := fun x h => by
    rw [Bool.and_eq_true] at h
    simp [PyData.canLayAll0, d.lay x.1 h.1, s.lay x.2 h.2]
  dpt := fun x => by
    simp only [PyData.depthAll]
    have h1 := d.dpt x.1
    have h2 := s.dpt x.2
    omega
  eqv := fun x y => by
    obtain ⟨x1, x2⟩ := x
    obtain ⟨y1, y2⟩ := y
    letI := d.dec
    letI := s.dec
    simp only [PyData.eqvAll, d.eqv x1 y1, s.eqv x2 y2]
    by_cases h1 : x1 = y1
    · by_cases h2 : x2 = y2
      · subst h1 h2; simp
      · have : ¬ ((x1, x2) = (y1, y2)) := fun e => h2 (Prod.mk.inj e).2
        simp only [h2, decide_false, Bool.and_false]
        exact (decide_eq_false this).symm
    · have : ¬ ((x1, x2) = (y1, y2)) := fun e => h1 (Prod.mk.inj e).1
      simp only [h1, decide_false, Bool.false_and]
      exact (decide_eq_false this).symm
def dao_tup (s : SatO ts m) : DatO (yTup ts) (m + 1) where
  f := fun x => .tuple (s.f x)
  ok := s.ok
  dec := s.dec
  dp := fun h => by obtain ⟨a, vs, rfl, sq, q⟩ := h; exact .tup sq (s.dp q)
  lay := fun x h => by simp only [PyData.canLay0]; exact s.lay x h
  dpt := fun x => by simp only [PyData.depth]; exact Nat.succ_le_succ (s.dpt x)
  eqv := fun x y => by simp only [PyData.eqv]; exact s.eqv x y
theorem DatO.shaped (d : DatO τ n) (hn : n ≤ 64) (x : α) (h : d.ok x = true) : SeqAt.shaped (d.f x) = true := by
  unfold SeqAt.shaped
  rw [d.lay x h, decide_eq_true (Nat.le_trans (d.dpt x) hn)]
  rfl
variable {K : PySem.W.Frag} {H : Hp} {F1 F2 : List Addr} {v u : V} {Q : VK} {x y : α}
theorem okB {a b : Bool} {z : Unit} (h : Mi.guardO (a && b) = some z) : a = true ∧ b = true := by
  unfold Mi.guardO at h
  split at h
  · rename_i q; rw [Bool.and_eq_true] at q; exact q
  · cases h
theorem w_eqO [i : DecidableEq α] {z : Unit} (d : DatO τ n) (r : τ.rep K H F1 v x) (q : τ.rep K H F2 u y) (g : Mi.guardO (d.ok x && d.ok y) = some z) (k : Q (.bl (decide (x = y))) H) (hn : n ≤ 64 := by decide) : rEqD K v u H Q :=
  ⟨_, _, d.dp r, d.dp q, d.shaped hn x (okB g).1, d.shaped hn y (okB g).2, by
    have e : @decide (x = y) (d.dec x y) = @decide (x = y) (i x y) := by congr
    rw [d.eqv, e]; exact k⟩
theorem w_neO [i : DecidableEq α] {z : Unit} (d : DatO τ n) (r : τ.rep K H F1 v x) (q : τ.rep K H F2 u y) (g : Mi.guardO (d.ok x && d.ok y) = some z) (k : Q (.bl (!decide (x = y))) H) (hn : n ≤ 64 := by decide) : rNeD K v u H Q :=
  ⟨_, _, d.dp r, d.dp q, d.shaped hn x (okB g).1, d.shaped hn y (okB g).2, by
    have e : @decide (x = y) (d.dec x y) = @decide (x = y) (i x y) := by congr
    rw [d.eqv, e]; exact k⟩
end
end G

namespace G
open PySem PySem.Spec PyProof.Rows L2
/-! ### a list that owns its items: no two of them share a cell -/
inductive Par3 {α : Type} (R : V → List Addr → α → Prop) : List V → List (List Addr) → List α → Prop
  | nil : Par3 R [] [] []
  | cons {u : V} {Fi : List Addr} {x : α} {vs : List V} {Fs : List (List Addr)} {xs : List α} : R u Fi x → Par3 R vs Fs xs → Par3 R (u :: vs) (Fi :: Fs) (x :: xs)
theorem Par3.mapP {α : Type} {R S : V → List Addr → α → Prop} : ∀ {vs Fs} {xs : List α}, Par3 R vs Fs xs → (∀ u Fi x, Fi ∈ Fs → R u Fi x → S u Fi x) → Par3 S vs Fs xs
  | _, _, _, .nil, _ => .nil
  | _, _, _, .cons r t, h => .cons (h _ _ _ (List.mem_cons_self ..) r) (Par3.mapP t fun u Fi x m => h u Fi x (List.mem_cons_of_mem _ m))
theorem Par3.len {α : Type} {R : V → List Addr → α → Prop} : ∀ {vs Fs} {xs : List α}, Par3 R vs Fs xs → vs.length = xs.length ∧ Fs.length = xs.length
  | _, _, _, .nil => ⟨rfl, rfl⟩
  | _, _, _, .cons r t => by
    have := Par3.len t
    simp [this.1, this.2]
theorem Par3.get {α : Type} {R : V → List Addr → α → Prop} : ∀ {vs Fs} {xs : List α} (_ : Par3 R vs Fs xs) {j : Nat} {x : α}, xs[j]? = some x → ∃ u Fi, vs[j]? = some u ∧ Fs[j]? = some Fi ∧ R u Fi x
  | _, _, _, .nil, j, x, h => by simp at h
  | _, _, _, .cons (u := u) (Fi := Fi) r t, 0, x, h => by
    obtain rfl := Option.some.inj h
    exact ⟨u, Fi, rfl, rfl, r⟩
  | _, _, _, .cons r t, j + 1, x, h => Par3.get t (j := j) h
theorem Par3.pr {α : Type} {R : V → List Addr → α → Prop} {S : V → α → Prop} : ∀ {vs Fs} {xs : List α}, Par3 R vs Fs xs → (∀ u Fi x, Fi ∈ Fs → R u Fi x → S u x) → Paired S vs xs
  | _, _, _, .nil, _ => .nil
  | _, _, _, .cons r t, h => .cons (h _ _ _ (List.mem_cons_self ..) r) (Par3.pr t fun u Fi x m => h u Fi x (List.mem_cons_of_mem _ m))
/-- the j-th item changed, the others apart from what changed -/
theorem Par3.setAt {α : Type} {R S : V → List Addr → α → Prop} : ∀ {vs Fs} {xs : List α} (_ : Par3 R vs Fs xs) {j : Nat} {u : V} {Fi : List Addr} {y : α}, vs[j]? = some u → Fs[j]? = some Fi → S u Fi y → (∀ (k : Nat) u' Fk x, k ≠ j → Fs[k]? = some Fk → R u' Fk x → S u' Fk x) → Par3 S vs Fs (xs.set j y)
  | _, _, _, .nil, j, u, Fi, y, h, _, _, _ => by simp at h
  | _, _, _, .cons r t, 0, u, Fi, y, h1, h2, hs, ho => by
    obtain rfl := Option.some.inj h1
    obtain rfl := Option.some.inj h2
    refine .cons hs (Par3.mapP' t fun k u' Fk x hk hr => ho (k + 1) u' Fk x (by omega) hk hr)
  | _, _, _, .cons (u := u0) (Fi := F0) r t, j + 1, u, Fi, y, h1, h2, hs, ho => .cons (ho 0 _ _ _ (by omega) rfl r) (Par3.setAt t (j := j) h1 h2 hs fun k u' Fk x hk hf hr => ho (k + 1) u' Fk x (by omega) hf hr)
where
  Par3.mapP' {α : Type} {R S : V → List Addr → α → Prop} : ∀ {vs Fs} {xs : List α}, Par3 R vs Fs xs → (∀ (k : Nat) u Fk x, Fs[k]? = some Fk → R u Fk x → S u Fk x) → Par3 S vs Fs xs
  | _, _, _, .nil, _ => .nil
  | _, _, _, .cons r t, h => .cons (h 0 _ _ _ rfl r) (Par3.mapP' t fun k u Fk x hk => h (k + 1) u Fk x hk)
def yOwn {α : Type} (τ : Ty α) : Ty (List α) where
  rep K H F v xs := ∃ a vs Fs, v = .ref a ∧ F = a :: Fs.flatten ∧ (a :: Fs.flatten).Nodup ∧ H a = some (.lst vs) ∧ Par3 (fun u Fi x => τ.rep K H Fi u x) vs Fs xs
  keep {K H H' F v xs} h k := by
    obtain ⟨a, vs, Fs, e, rfl, nd, g, r⟩ := h
    exact ⟨a, vs, Fs, e, rfl, nd, k a _ g (.inl (List.mem_cons_self ..)), Par3.mapP r fun u Fi x m q => τ.keep q fun b o hb z => k b o hb (z.imp (fun y => List.mem_cons_of_mem _ (List.mem_flatten.mpr ⟨Fi, m, y⟩)) id)⟩
  dom {K H F v xs} h b m := by
    obtain ⟨a, vs, Fs, e, rfl, nd, g, r⟩ := h
    rcases List.mem_cons.mp m with rfl | m
    · exact ⟨_, g, fun z => z⟩
    · obtain ⟨Fi, hF, hb⟩ := List.mem_flatten.mp m
      obtain ⟨j, hj⟩ := List.getElem?_of_mem hF
      have hl := Par3.len r
      have hjl : j < xs.length := by
        have := (List.getElem?_eq_some_iff.mp hj).1
        omega
      obtain ⟨u, F', _, hF', ru⟩ := Par3.get r (List.getElem?_eq_getElem hjl)
      rw [hj] at hF'
      obtain rfl := Option.some.inj hF'
      exact τ.dom ru b hb
section
variable {K : PySem.W.Frag} {σ σ' : L2.St} {H : Hp} {F F1 F2 Fu : List Addr} {ta tb te : TE} {v u x y : V} {i j : Int} {α β : Type} {τ : Ty α} {υ : Ty β} {Q : VK}
theorem own_lsg {xs : List α} (r : (yOwn τ).rep K H F v xs) : (yLsg τ).rep K H F v xs := by
  have hd := (yOwn τ).dom r
  obtain ⟨a, vs, Fs, e, rfl, nd, g, q⟩ := r
  exact ⟨a, vs, Fs.flatten, e, rfl, (List.nodup_cons.mp nd).1, g, fun b hb => hd b (List.mem_cons_of_mem _ hb), Par3.pr q fun u Fi x m ru => ⟨Fi, ru, fun b hb => List.mem_flatten.mpr ⟨Fi, m, hb⟩⟩⟩
theorem own_nil {p : Addr} {υ : Ty β} (r : (yLst υ).rep K H [p] (.ref p) []) : (yOwn τ).rep K H [p] (.ref p) [] := by
  obtain ⟨a, vs, e, f, g, q⟩ := r
  obtain rfl := V.ref.inj e
  cases q
  exact ⟨p, [], [], rfl, rfl, List.nodup_cons.mpr ⟨List.not_mem_nil, List.nodup_nil⟩, g, .nil⟩
theorem Par3.snoc {R : V → List Addr → α → Prop} {u : V} {Fi : List Addr} {x : α} : ∀ {vs Fs} {xs : List α}, Par3 R vs Fs xs → R u Fi x → Par3 R (vs ++ [u]) (Fs ++ [Fi]) (xs ++ [x])
  | _, _, _, .nil, h => .cons h .nil
  | _, _, _, .cons r t, h => .cons r (Par3.snoc t h)
/-- an item goes in, with cells of its own -/
theorem m_appO {xs ys : List α} {d : α} (r : (yOwn τ).rep K H F v xs) (ru : τ.rep K H Fu u d) (dj : Dj F Fu) (nu : Fu.Nodup) (hm : Mi.app xs d = some ys)
    (k : ∀ H' F', Chg F H H' → (yOwn τ).rep K H' F' v ys → Sub F F' → Sub F' (F ++ Fu) → Q .non H') : rAppend v [u] H Q := by
  obtain ⟨p, vs, Fs, rfl, rfl, nd, g, q⟩ := r
  have np : p ∉ Fu := dj p (List.mem_cons_self ..)
  have hpf := (List.nodup_cons.mp nd).1
  unfold Mi.app at hm
  split at hm
  · rename_i hz
    cases hm
    have c : Chg [p] H (upd H p (.lst (vs ++ [u]))) := Chg.wr g (fun z => z)
    have kp : ∀ {γ : Type} {ρ : Ty γ} {Fi : List Addr} {w : V} {e : γ}, ρ.rep K H Fi w e → p ∉ Fi → ρ.rep K (upd H p (.lst (vs ++ [u]))) Fi w e := fun rr hn => Ty.chg rr c fun b hb z => by
      rw [List.mem_singleton] at z; subst z; exact hn hb
    have ef : (Fs ++ [Fu]).flatten = Fs.flatten ++ Fu := by simp
    refine ⟨p, vs, u, rfl, rfl, g, Nat.lt_of_lt_of_le (by rw [(Par3.len q).1]; exact hz) line_big, k _ (p :: (Fs ++ [Fu]).flatten) (c.mono fun b hb => by rw [List.mem_singleton] at hb; subst hb; exact List.mem_cons_self ..) ⟨p, _, Fs ++ [Fu], rfl, rfl, ?_, upd_same, Par3.snoc (Par3.mapP q fun w Fi e m z => kp z fun hp => hpf (List.mem_flatten.mpr ⟨Fi, m, hp⟩)) (kp ru np)⟩ ?_ ?_⟩
    · rw [ef]
      refine List.nodup_cons.mpr ⟨fun hp => (List.mem_append.mp hp).elim hpf np, List.nodup_append.mpr ⟨(List.nodup_cons.mp nd).2, nu, fun b hb b' hb' e => ?_⟩⟩
      subst e
      exact dj b (List.mem_cons_of_mem _ hb) hb'
    · intro b hb
      rw [ef]
      rcases List.mem_cons.mp hb with rfl | hb
      · exact List.mem_cons_self ..
      · exact List.mem_cons_of_mem _ (List.mem_append_left _ hb)
    · intro b hb
      rw [ef] at hb
      rcases List.mem_cons.mp hb with rfl | hb
      · exact List.mem_append_left _ (List.mem_cons_self ..)
      · rcases List.mem_append.mp hb with hb | hb
        · exact List.mem_append_left _ (List.mem_cons_of_mem _ hb)
        · exact List.mem_append_right _ hb
  · cases hm
theorem e_appO {D : Addr} {N : Hp → Prop} {xs ys : List α} {d : α} (r : (yOwn τ).rep K H F (.ref D) xs) (ru : τ.rep K H Fu u d) (dj : Dj F Fu) (nu : Fu.Nodup) (hm : Mi.app xs d = some ys)
    (k : ∀ H' F', Chg F H H' → (yOwn τ).rep K H' F' (.ref D) ys → Sub F F' → Sub F' (F ++ Fu) → N H') : AppG D N u H := by
  have h := m_appO (Q := fun _ H' => N H') r ru dj nu hm k
  obtain ⟨l, xs', y, e, e2, g, hz, q⟩ := h
  obtain rfl := V.ref.inj e
  obtain rfl : u = y := by simpa using e2
  exact ⟨xs', g, hz, q⟩
theorem lst_nd {xs : List α} (r : (yLst τ).rep K H F v xs) : F.Nodup := by
  obtain ⟨a, vs, _, rfl, _⟩ := r
  exact List.nodup_cons.mpr ⟨List.not_mem_nil, List.nodup_nil⟩
theorem own_nd {xs : List α} (r : (yOwn τ).rep K H F v xs) : F.Nodup := by
  obtain ⟨a, vs, Fs, _, rfl, nd, _⟩ := r
  exact nd
theorem flat_apart {Fs : List (List Addr)} (nd : Fs.flatten.Nodup) {j k : Nat} {A B : List Addr} (hj : Fs[j]? = some A) (hk : Fs[k]? = some B) (hne : k ≠ j) {b : Addr} (h1 : b ∈ A) : b ∉ B := by
  induction Fs generalizing j k with
  | nil => simp at hj
  | cons G Fs ih =>
    rw [List.flatten_cons, List.nodup_append] at nd
    match j, k with
    | 0, 0 => omega
    | 0, k + 1 =>
      obtain rfl := Option.some.inj hj
      exact fun h2 => nd.2.2 b h1 b (List.mem_flatten.mpr ⟨B, List.mem_of_getElem? (show Fs[k]? = some B from hk), h2⟩) rfl
    | j + 1, 0 =>
      obtain rfl := Option.some.inj hk
      exact fun h2 => nd.2.2 b h2 b (List.mem_flatten.mpr ⟨A, List.mem_of_getElem? (show Fs[j]? = some A from hj), h1⟩) rfl
    | j + 1, k + 1 => exact ih nd.2.1 (j := j) (k := k) hj hk (by omega)
/-- an item that changes in place -/
theorem itm_O {xs : List (List β)} {x : List β} (r : (yOwn (yLst υ)).rep K H F v xs) (h : Mi.at_ xs i = some x) :
    ∃ u, tyV K "list" u H ∧ (∀ {Q : VK}, Q u H → rIxL K v (.int i) H Q) ∧ (∀ {σ : L2.St} {ta tb : TE}, Val ta σ H v → Val tb σ H (.int i) → Val (tOp (rIxL K) ta tb) σ H u) ∧
      ∀ {e : V} {d : β} {ys : List (List β)} {Q : VK}, υ.rep K H [] e d → Mi.appIn xs i d = some ys → (∀ H', Chg F H H' → (yOwn (yLst υ)).rep K H' F v ys → Q .non H') → rAppend u [e] H Q := by
  obtain ⟨a, vs, Fs, rfl, rfl, nd, g, q⟩ := r
  have hl := (Par3.len q).1
  unfold Mi.at_ at h
  obtain ⟨n, hn, hx⟩ := Mi.bnd h
  obtain ⟨u, Fi, hu, hF, ru⟩ := Par3.get q hx
  have hat : atI vs i = some u := by
    show (L2.ixN vs.length i).bind _ = _
    have e : L2.ixN vs.length i = some n := by rw [hl]; exact hn
    rw [e]; exact hu
  have k : ∀ {Q : VK}, Q u H → rIxL K (.ref a) (.int i) H Q := fun z => ⟨a, vs, i, u, rfl, rfl, .inl (.inl g), hat, z⟩
  refine ⟨u, tyv_lst ru, k, fun ha hb => val_op ha hb fun Q z => k z, fun {e d ys Q} re hm z => ?_⟩
  unfold Mi.appIn at hm
  obtain ⟨n', hn', hm⟩ := Mi.bnd hm
  obtain rfl : n = n' := Option.some.inj (hn.symm.trans hn')
  obtain ⟨row, hrow, hm⟩ := Mi.bnd hm
  obtain rfl : x = row := Option.some.inj (hx.symm.trans hrow)
  obtain ⟨zs, hz, hm⟩ := Mi.bnd hm
  obtain rfl := Option.some.inj hm
  refine m_app ru re hz fun H' c r' => z H' (c.mono fun b hb => List.mem_cons_of_mem _ (List.mem_flatten.mpr ⟨Fi, List.mem_of_getElem? hF, hb⟩)) ⟨a, vs, Fs, rfl, rfl, nd, ?_, Par3.setAt q hu hF r' fun m u' Fk x' hm' hFk rk => Ty.chg rk c fun b hb hb2 => ?_⟩
  · have ha : a ∉ Fi := fun hb => (List.nodup_cons.mp nd).1 (List.mem_flatten.mpr ⟨Fi, List.mem_of_getElem? hF, hb⟩)
    exact c.keep a _ g (.inl ha)
  · exact flat_apart (List.nodup_cons.mp nd).2 hF hFk hm' hb2 hb
end
end G

/-! ### sets of tuples of ints, up to 75 of them: asked for and added to -/
namespace L2
open PySem PySem.Spec PyProof.Rows
section
variable {P : Program} {w : World} {A : Around} {E : Value → Shared → Prop} {s : Shared} {a : Addr} {L : List (Addr × List Int)} {es : Array (Int × Value)} {ep : Nat} {t : SetTable}
structure SetB (P : Program) (w : World) (h : Heap) (a : Addr) (L : List (Addr × List Int)) (es : Array (Int × Value)) (ep : Nat) (t : SetTable) : Prop where
  obj : ∃ o, h.get? a = some o ∧ o.ExactSet ∧ o.data = .set es ep t
  rws : es.toList = rowsOf P w L
  tb : TabOk t (L.map fun p => thash P w p.2)
  ndp : (L.map (·.2)).Nodup
  tps : ∀ p ∈ L, IsT P w h p.2 p.1
  pln : t.plain = true
  ld : w.params.followText "set-order" = true ∨ t.led = true
  rm : L.length * 5 < t.mask * 3
theorem SetB.of {h : Heap} (R : SetTR P w h a L es ep t) : SetB P w h a L es ep t := ⟨R.ob, R.rows, R.tab, R.nd, R.tup, R.plain, R.led, R.room⟩
theorem SetB.small {h : Heap} (R : SetB P w h a L es ep t) (hl : L.length < 64) : SetTR P w h a L es ep t := ⟨R.obj, R.rws, R.tb, R.ndp, R.tps, R.pln, R.ld, R.rm, hl⟩
theorem SetB.sz {h : Heap} (R : SetB P w h a L es ep t) : es.size = L.length := by
  have z := congrArg List.length R.rws
  simpa [rowsOf] using z
theorem SetB.ft {h : Heap} (R : SetB P w h a L es ep t) : t.fits es.size = true := by
  have z1 := R.tb.sz
  have z2 := R.sz
  have z3 := R.rm
  rw [List.length_map] at z1
  simp only [SetTable.fits, SetTable.fill, R.tb.dm, Bool.and_eq_true, beq_iff_eq, decide_eq_true_eq]
  refine ⟨by omega, ?_⟩
  show t.place.size + 0 ≤ t.mask
  omega
theorem SetB.ent {h : Heap} (R : SetB P w h a L es ep t) {i : Nat} {p : Addr × List Int} (hp : L[i]? = some p) : es[i]? = some (thash P w p.2, Value.ref p.1) := by
  have z : es.toList[i]? = some (thash P w p.2, Value.ref p.1) := by
    rw [R.rws, rowsOf, List.getElem?_map, hp]; rfl
  rw [Array.getElem?_toList] at z; exact z
theorem SetB.noGive {h : Heap} (R : SetB P w h a L es ep t) : ¬ t.gaveWay = true := by
  rw [SetTable.gaveWay, mask_odd R.tb.mok]; decide
abbrev wy (P : Program) (w : World) (t : SetTable) (k : List Int) (c : Nat) : Nat := way t.mask (thash P w k) c
abbrev stp (P : Program) (w : World) (t : SetTable) (k : List Int) (c : Nat) : SetTable.Probe := nth t.mask (runAt t.mask (SetTable.bits (thash P w k) % (t.mask + 1)) (SetTable.bits (thash P w k))) c
theorem nth_dm (m : Nat) : ∀ (n : Nat) (p : SetTable.Probe), p.dummy = none → (nth m p n).dummy = none
  | 0, _, h => h
  | n + 1, p, h => nth_dm m n (adv m p) (by unfold adv; split <;> exact h)
/-- the search, asked by a question or by an adding (ad) -/
theorem SetB.srch (R : SetB P w s.heap a L es ep t) {x : Addr} {k : List Int} (hx : IsT P w s.heap k x) (hu : A.units < cLine) (ad : Bool) {K : Nat} (hKf : K < 10 * SetTable.turns t.mask)
    (hK : wy P w t k K ∉ t.place.toList) (hKb : ∀ c, c < K → wy P w t k c ∈ t.place.toList) {Q : SetFound → Shared → Prop}
    (yes : k ∈ L.map (·.2) → ∀ r : Option Nat, (ad = false → r.isSome = true) → Q (.there r) s) (no : k ∉ L.map (·.2) → Q (.free (wy P w t k K) false) s) :
    ∀ (f c : Nat) (st : Option SetTable.Probe), st.getD (t.probeStart (thash P w k)) = stp P w t k c → c ≤ K → K - c < f →
      (∀ (i : Nat) p, L[i]? = some p → p.2 = k → ∃ c', c ≤ c' ∧ c' < K ∧ t.place.toList[i]? = some (wy P w t k c')) → wpAny (model P w) A (setSearchFrom a (.ref x) (thash P w k) ad f st) Q E s := by
  intro f
  induction f with
  | zero => intro c st _ _ hf _; exact absurd hf (Nat.not_lt_zero _)
  | succ f ih =>
    intro c st hst hc hf hre
    obtain ⟨o, ho, hex, hd⟩ := R.obj
    rw [setSearchFrom_succ]
    refine wpAny_bind (wpAny_setState_of ho hd R.ft ?_)
    dsimp only
    refine wp_if_neg R.noGive ?_
    try refine wpAny_bind (wpAny_pure ?_)
    have sh : ∀ q, nth t.mask (stp P w t k c) q = stp P w t k (c + q) := fun q => (nth_add t.mask c _ q).symm
    have ej : ∀ q, (nth t.mask (stp P w t k c) q).j = wy P w t k (c + q) := fun q => congrArg SetTable.Probe.j (sh q)
    have eK : c + (K - c) = K := by omega
    have hh : ∀ (i : Nat) p, L[i]? = some p → (fun i => (es[i]?.map (·.1)).getD 0) i = thash P w p.2 := fun i p hp => by
      show (es[i]?.map (·.1)).getD 0 = _
      rw [R.ent hp]; rfl
    have spec := go_spec t R.tb.ris R.tb.dm (fun i => (es[i]?.map (·.1)).getD 0) (thash P w k) (10 * SetTable.turns t.mask) (K - c) (stp P w t k c) (nth_dm _ _ _ rfl) (by omega) (fun q hq => by rw [ej]; exact hKb (c + q) (by omega)) (by rw [ej, eK]; exact hK)
    rcases spec with ⟨q, i, hq, hi, _, hno, hpr⟩ | ⟨hno, hpr⟩
    · have hp1 : t.probe (fun i => (es[i]?.map (·.1)).getD 0) (thash P w k) (st.getD (t.probeStart (thash P w k))) = some (.candidate (wy P w t k (c + q)) i (stp P w t k (c + (q + 1)))) := by
        rw [hst, ← ej, ← sh]; exact hpr
      rw [hp1]
      dsimp only
      rw [ej] at hi
      have hil : i < L.length := by
        have z1 : i < t.place.toList.length := (List.getElem?_eq_some_iff.mp hi).1
        have z2 := R.tb.sz
        rw [List.length_map] at z2
        rw [Array.length_toList] at z1
        omega
      obtain ⟨p, hp⟩ : ∃ p, L[i]? = some p := ⟨L[i], List.getElem?_eq_getElem hil⟩
      have hm := List.mem_of_getElem? hp
      have hsl : t.slot (wy P w t k (c + q)) = .live i := slot_live R.tb.ris hi
      have more : wpAny (model P w) A (searchRest a (.ref x) (thash P w k) ad f es t (wy P w t k (c + q)) i (stp P w t k (c + (q + 1)))) Q E s := by
        unfold searchRest
        rw [R.ent hp]
        dsimp only
        refine wpAny_bind (wpAny_holding (wpAny_eqBool_tuple hu (R.tps p hm) hx ?_))
        refine wpAny_bind (wpAny_setState_of ho hd R.ft ?_)
        dsimp only
        by_cases hkk : p.2 = k
        · have hin := List.mem_map.mpr ⟨p, hm, hkk⟩
          cases ad with
          | true =>
            refine wp_if_pos (by simp [hkk]) ?_
            exact wpAny_pure (yes hin none fun z => by cases z)
          | false =>
            refine wp_if_neg (by simp) ?_
            try refine wpAny_bind (wpAny_pure ?_)
            rw [sameMem]
            dsimp only
            simp only [if_true, hsl, R.ent hp]
            refine wpAny_bind (wpAny_isSame_ref_self (wpAny_bind (wpAny_pure ?_)))
            simp only [if_true]
            refine wp_if_pos (by simp [hkk]) ?_
            exact wpAny_pure (yes hin (some i) fun _ => rfl)
        · refine wp_if_neg (by simp [hkk]) ?_
          try refine wpAny_bind (wpAny_pure ?_)
          rw [sameMem]
          dsimp only
          simp only [if_true, hsl, R.ent hp]
          refine wpAny_bind (wpAny_isSame_ref_self (wpAny_bind (wpAny_pure ?_)))
          simp only [if_true]
          refine wp_if_neg (by simp [hkk]) ?_
          refine ih (c + (q + 1)) _ rfl (by omega) (by omega) fun i0 p0 h0 hk0 => ?_
          obtain ⟨c', a1, a2, a3⟩ := hre i0 p0 h0 hk0
          refine ⟨c', ?_, a2, a3⟩
          rcases Nat.lt_or_ge c' (c + (q + 1)) with z | z
          · exfalso
            rcases Nat.lt_or_ge c' (c + q) with z2 | z2
            · exact hno (c' - c) i0 (by omega) (by rw [ej, show c + (c' - c) = c' by omega]; exact a3) ((hh i0 p0 h0).trans (congrArg (thash P w) hk0))
            · obtain rfl : c' = c + q := by omega
              have s0 := slot_live R.tb.ris a3
              rw [hsl] at s0
              injection s0 with s0
              rw [← s0, hp] at h0
              exact hkk ((congrArg Prod.snd (Option.some.inj h0)).trans hk0)
          · exact z
      by_cases hl : t.led = true
      · refine wp_if_neg (by simp [hl]) ?_
        try refine wpAny_bind (wpAny_pure ?_)
        exact more
      · refine wp_if_pos (by simp [hl]) ?_
        refine wpAny_bind (seen_tup hx (fun y hy => ?_) ?_)
        · obtain ⟨e, he, ee⟩ := List.mem_map.mp hy
          have he2 : e ∈ es.toList := by
            have z : e ∈ es ∧ e.1 = thash P w k := by simpa using he
            simpa using z.1
          rw [R.rws] at he2
          obtain ⟨p2, hp2, e2⟩ := List.mem_map.mp he2
          exact ⟨p2.2, p2.1, by rw [← ee, ← e2], R.tps p2 hp2⟩
        · refine wp_if_neg (by decide) ?_
          try refine wpAny_bind (wpAny_pure ?_)
          exact more
    · have hp1 : t.probe (fun i => (es[i]?.map (·.1)).getD 0) (thash P w k) (st.getD (t.probeStart (thash P w k))) = some (.empty (wy P w t k K) none) := by
        have e2 : wy P w t k K = (nth t.mask (stp P w t k c) (K - c)).j := by rw [ej, eK]
        rw [hst, e2]; exact hpr
      rw [hp1]
      dsimp only
      refine wpAny_pure (no fun hm => ?_)
      obtain ⟨p0, h0, hk0⟩ := List.mem_map.mp hm
      obtain ⟨i0, h00⟩ := List.getElem?_of_mem h0
      obtain ⟨c', a1, a2, a3⟩ := hre i0 p0 h00 hk0
      exact hno (c' - c) i0 (by omega) (by rw [ej, show c + (c' - c) = c' by omega]; exact a3) ((hh i0 p0 h00).trans (congrArg (thash P w) hk0))
theorem SetB.search (R : SetB P w s.heap a L es ep t) {x : Addr} {k : List Int} (hx : IsT P w s.heap k x) (hu : A.units < cLine) (ad : Bool) {Q : SetFound → Shared → Prop}
    (yes : k ∈ L.map (·.2) → ∀ r : Option Nat, (ad = false → r.isSome = true) → Q (.there r) s)
    (no : ∀ K, k ∉ L.map (·.2) → wy P w t k K ∉ t.place.toList → (∀ c, c < K → wy P w t k c ∈ t.place.toList) → Q (.free (wy P w t k K) false) s) : wpAny (model P w) A (setSearch a (.ref x) (thash P w k) ad) Q E s := by
  have hr := R.rm
  obtain ⟨K, hKf, hK, hKb⟩ := R.tb.first (by rw [List.length_map]; omega) (thash P w k)
  have hbig : K < 100000 := by
    have : 10 * SetTable.turns t.mask ≤ 1420 := by
      unfold SetTable.turns
      rcases R.tb.mok with e | e | e <;> omega
    omega
  unfold setSearch
  refine R.srch hx hu ad hKf hK hKb yes (fun hn => no K hn hK hKb) 100000 0 none rfl (Nat.zero_le _) (by omega) fun i p hp hk => ?_
  have hi : (L.map fun p => thash P w p.2)[i]? = some (thash P w k) := by rw [List.getElem?_map, hp, ← hk]; rfl
  have hil : i < t.place.toList.length := by
    have z1 : i < L.length := (List.getElem?_eq_some_iff.mp hp).1
    have z2 := R.tb.sz
    rw [List.length_map] at z2
    rw [Array.length_toList]; omega
  have hj := List.getElem?_eq_getElem hil
  obtain ⟨c, hc, e⟩ := R.tb.before hK hi hj
  exact ⟨c, Nat.zero_le _, hc, hj.trans (congrArg some e.symm)⟩
/-- adding to a table that has room for 128 -/
theorem SetB.addBig (R : SetB P w s.heap a L es ep t) {x : Addr} {k : List Int} (hx : IsT P w s.heap k x) (hu : A.units < cLine) (hm7 : t.mask = 127) (hfew : L.length + 1 < 76) {Q : Bool → Shared → Prop}
    (hQ : ∀ b h' L' es' ep' t', Heap.SameBut a s.heap h' → SetB P w h' a L' es' ep' t' → (k ∈ L.map (·.2) → L' = L) → (k ∉ L.map (·.2) → L'.Perm ((x, k) :: L)) → Q b { s with heap := h' }) :
    wpAny (model P w) A (setAddHashed a (.ref x) (thash P w k)) Q E s := by
  obtain ⟨o, ho, hex, hd⟩ := R.obj
  have hsl := R.sz
  unfold setAddHashed
  refine wpAny_holding ?_
  rw [show (100000 : Nat) = 99999 + 1 from rfl, setAddHashedIn_succ]
  refine wpAny_bind (wpAny_setState_of ho hd R.ft ?_)
  dsimp only
  refine wp_if_neg (by simp [byScan, Value.scannable]) ?_
  try refine wpAny_bind (wpAny_pure ?_)
  refine wpAny_bind (R.search hx hu true (fun hm r _ => ?_) fun K hm hK hb => ?_)
  · dsimp only
    exact wpAny_pure (hQ false s.heap L es ep t (Heap.SameBut.refl a s.heap) R (fun _ => rfl) fun z => absurd hm z)
  · dsimp only
    refine wpAny_bind (wpAny_setState_of ho hd R.ft ?_)
    dsimp only
    obtain ⟨q1, q2, q3, q4, q5, q6, q7, q8, q9⟩ := R.tb.put hK hb
    have hp1 : (t.put (wy P w t k K)).1.plain = true := by rw [q6]; exact R.pln
    generalize hpt : t.put (wy P w t k K) = pt at q1 q3 q4 q5 q6 q7 q8 q9 hp1 ⊢
    obtain ⟨t1, p⟩ := pt
    dsimp only at q1 q3 q4 q5 q6 q7 q8 q9 hp1 ⊢
    subst q1
    first
      | (refine wpAny_bind ?_; refine wp_if_pos hp1 ?_; refine hashBy_tup hx ?_)
      | refine wp_if_pos hp1 (wpAny_bind (hashBy_tup hx ?_))
    simp only [if_true]
    have hin : (SetTable.insertAt es (SetTable.below t.place (wy P w t k K)) (thash P w k, Value.ref x)).toList = rowsOf P w (L.take (SetTable.below t.place (wy P w t k K)) ++ (x, k) :: L.drop (SetTable.below t.place (wy P w t k K))) := by
      rw [SetTable.toList_insertAt, rows_put, R.rws]
    generalize hpp : SetTable.below t.place (wy P w t k K) = p at q2 q3 hin ⊢
    have pm := put_perm L p (x, k)
    have hlen : (L.take p ++ (x, k) :: L.drop p).length = L.length + 1 := pm.length_eq
    have hhs : (L.take p ++ (x, k) :: L.drop p).map (fun p => thash P w p.2) = (L.map fun p => thash P w p.2).take p ++ thash P w k :: (L.map fun p => thash P w p.2).drop p := by
      rw [List.map_append, List.map_cons, List.map_take, List.map_drop]
    rw [← hhs] at q3
    have nd1 : ((L.take p ++ (x, k) :: L.drop p).map (·.2)).Nodup := (pm.map (·.2)).nodup_iff.mpr (List.nodup_cons.mpr ⟨hm, R.ndp⟩)
    have hes : (SetTable.insertAt es p (thash P w k, Value.ref x)).size = L.length + 1 := by
      have z := congrArg List.length hin
      rw [rowsOf, Array.length_toList, List.length_map, hlen] at z
      exact z
    generalize SetTable.insertAt es p (thash P w k, Value.ref x) = es1 at hin hes ⊢
    generalize L.take p ++ (x, k) :: L.drop p = L1 at pm hlen q3 nd1 hin
    refine wpAny_bind (wpAny_storeSet_of ho hd ?_ (by rw [hes, sizeLine_eq]; omega))
    have sb : Heap.SameBut a s.heap (s.heap.update a (Obj.putSet es1 t1)) := Heap.SameBut.update ..
    have ho1 := store_at (es' := es1) (t' := t1) ho hd
    generalize s.heap.update a (Obj.putSet es1 t1) = h1 at sb ho1 ⊢
    have tup1 : ∀ p ∈ L1, IsT P w h1 p.2 p.1 := fun p hp => by
      rcases List.mem_cons.mp (pm.mem_iff.mp hp) with e | hp
      · rw [e]; exact isT_same hx ho hd sb
      · exact isT_same (R.tps p hp) ho hd sb
    have hf : ¬ t1.tooFull = true := fun z => by
      unfold SetTable.tooFull at z
      rw [decide_eq_true_eq, q9, List.length_map, q4, hm7] at z
      omega
    first
      | refine wp_if_neg (by simp [hf]) ?_
      | (refine wpAny_bind ?_; refine wp_if_neg (by simp [hf]) ?_; refine wpAny_pure ?_)
    refine wpAny_pure (hQ true h1 L1 es1 (ep + 1) t1 sb ⟨⟨_, ho1, ⟨hex.1, hex.2.1, hex.2.2⟩, rfl⟩, hin, q3, nd1, tup1, hp1, by rw [q5]; exact R.ld, ?_⟩ (fun z => absurd z hm) fun _ => pm)
    rw [hlen, q4, hm7]; omega
theorem SetB.add (R : SetB P w s.heap a L es ep t) {x : Addr} {k : List Int} (hx : IsT P w s.heap k x) (hu : A.units < cLine) (hfew : L.length + 1 < 76) {Q : Bool → Shared → Prop}
    (hQ : ∀ b h' L' es' ep' t', Heap.SameBut a s.heap h' → SetB P w h' a L' es' ep' t' → (k ∈ L.map (·.2) → L' = L) → (k ∉ L.map (·.2) → L'.Perm ((x, k) :: L)) → Q b { s with heap := h' }) :
    wpAny (model P w) A (setAddHashed a (.ref x) (thash P w k)) Q E s := by
  by_cases h : L.length + 1 < 64
  · exact add_at (R.small (by omega)) hx hu h fun b h' L' es' ep' t' sb R' => hQ b h' L' es' ep' t' sb (.of R')
  · refine R.addBig hx hu ?_ hfew hQ
    have z := R.rm
    rcases R.tb.mok with e | e | e <;> omega
end
end L2

namespace L2
open PySem PySem.Spec PyProof.Rows
structure SetB0 (P : Program) (w : World) (h : Heap) (a : Addr) (L : List (Addr × List Int)) : Prop where
  has : ∃ (es : Array (Int × Value)) (ep : Nat) (t : SetTable), (∃ o, h.get? a = some o ∧ o.ExactSet ∧ o.data = .set es ep t) ∧ es.toList = rowsOf P w L ∧ TabOk t (L.map fun p => thash P w p.2) ∧ (L.map (·.2)).Nodup ∧ t.plain = true ∧
    (w.params.followText "set-order" = true ∨ t.led = true) ∧ L.length * 5 < t.mask * 3
def SetBO (P : Program) (w : World) (a : Addr) (L : List (Addr × List Int)) : HO := .ext fun h => SetB0 P w h a L
section
variable {P : Program} {w : World} {h : Heap} {a : Addr} {L : List (Addr × List Int)} {es : Array (Int × Value)} {ep : Nat} {t : SetTable}
theorem SetB.bare (R : SetB P w h a L es ep t) : SetB0 P w h a L := ⟨es, ep, t, R.obj, R.rws, R.tb, R.ndp, R.pln, R.ld, R.rm⟩
theorem SetB0.whole (R : SetB0 P w h a L) (ht : ∀ p ∈ L, IsT P w h p.2 p.1) : ∃ es ep t, SetB P w h a L es ep t := by
  obtain ⟨es, ep, t, x1, x2, x3, x4, x5, x6, x7⟩ := R.has
  exact ⟨es, ep, t, x1, x2, x3, x4, ht, x5, x6, x7⟩
theorem setBO_new {H : Hp} (R : SetB0 P w h a L) : ObjOk P w H h a (SetBO P w a L) := by
  have ⟨es, ep, t, ⟨o, ho, _⟩, _⟩ := R.has
  refine ⟨R, ⟨o, ho⟩, fun g1 g2 p k => ?_⟩
  obtain ⟨es', ep', t', ⟨o', ho', r'⟩, q'⟩ := SetB0.has p
  exact ⟨es', ep', t', ⟨o', k o' ho', r'⟩, q'⟩
end
section
variable {X : Cx}
theorem setBO_get {pins : List (Addr × Obj)} {σ : St} {H : Hp} {s : Shared} {a : Addr} {L : List (Addr × List Int)} (I : Inv X pins σ H s) (ha : H a = some (SetBO X.prog X.w a L)) (ht : ∀ p ∈ L, SqT X.K H p.1 (p.2.map V.int)) : ∃ es ep t, SetB X.prog X.w s.heap a L es ep t :=
  SetB0.whole (I.hok a _ ha).1 fun p hp => I.isT (ht p hp)
/-- set() -/
def rSetB0 (P : Program) (w : World) : List V → Hp → VK → Prop := fun xs H Q => xs = [] ∧ ∀ p, H p = none → Q (.ref p) (upd H p (SetBO P w p []))
theorem cr_setB0 : CallR X (.type "set") (rSetB0 X.prog X.w) := by
  intro pins s σ H xs us Q I r h
  obtain ⟨rfl, q⟩ := h
  cases r
  refine setR_new fun _ => ?_
  have nw := (SetB.of (setTR_fresh (P := X.prog) (w := X.w) (h := s.heap.push { cls := .type "set", dict := none, data := .set #[] 0 (.fresh 0 0 (!X.w.params.followText "set-order")) }) (a := s.heap.objs.size) (Heap.get?_push_size _ rfl))).bare
  exact ⟨.ref _, upd H s.heap.objs.size (SetBO X.prog X.w s.heap.objs.size []), I.laid (t' := s.toks) (fun b u e => Heap.get?_push_of_some _ e) (Nat.le_refl _) (setBO_new nw), rfl, q _ (I.hok.fresh (Nat.le_refl _))⟩
theorem B_find {P : Program} {w : World} {A : Around} {E : Value → Shared → Prop} {s : Shared} {a : Addr} {L : List (Addr × List Int)} {es : Array (Int × Value)} {ep : Nat} {t : SetTable} (R : SetB P w s.heap a L es ep t) {x : Addr} {k : List Int} (hx : IsT P w s.heap k x) (hu : A.units < cLine) {Q : Option Nat → Shared → Prop}
    (h : ∀ r : Option Nat, r.isSome = decide (k ∈ L.map (·.2)) → Q r s) : wpAny (model P w) A (setFind a (.ref x) (thash P w k)) Q E s := by
  obtain ⟨o, ho, hex, hd⟩ := R.obj
  unfold setFind setFindIn
  refine wpAny_bind (wpAny_setState_of ho hd R.ft ?_)
  dsimp only
  refine wp_if_neg (by simp [byScan, Value.scannable]) ?_
  try refine wpAny_bind (wpAny_pure ?_)
  refine wpAny_bind (R.search hx hu false (fun hm r hr => ?_) fun K hm _ _ => ?_)
  · dsimp only
    exact wpAny_pure (h r (by rw [hr rfl, decide_eq_true hm]))
  · dsimp only
    exact wpAny_pure (h none (by rw [decide_eq_false hm]; rfl))
/-- t in s -/
def rBIn (K : PySem.W.Frag) (P : Program) (w : World) : V → V → Hp → VK → Prop := fun x y H Q => ∃ (b a : Addr) (k : List Int) (L : List (Addr × List Int)), x = V.ref b ∧ y = V.ref a ∧ SqT K H b (k.map V.int) ∧ H a = some (SetBO P w a L) ∧ (∀ p ∈ L, SqT K H p.1 (p.2.map V.int)) ∧ Q (.bl (decide (k ∈ L.map (·.2)))) H
theorem op_bin (hu : X.A.units + 64 < cLine) : OpR X (compareOp .In) (rBIn X.K X.prog X.w) := by
  intro pins s σ H x y v u Q I rx ry h
  obtain ⟨b, a, k, L, rfl, rfl, hb, ha, ht, q⟩ := h
  cases rx
  cases ry
  obtain ⟨es, ep, t, R⟩ := setBO_get I ha ht
  have hx := I.isT hb
  obtain ⟨o, ho, hex, hd⟩ := R.obj
  have hT : s.TypeIs (.ref a) "set" := ⟨o, ho, hex.1⟩
  show wpAny _ _ (do return Value.bool (← contains (.ref a) (.ref b))) _ _ s
  refine wpAny_bind ?_
  unfold contains
  try with_reducible refine wpAny_holding ?_
  refine wpAny_bind (wpAny_specialOf hT F.slot_set_contains.lookup ?_)
  show wpAny _ _ (if (some (Value.builtin "set.__contains__") == some Value.none) = true then _ else _) _ _ s
  rw [if_neg (by rw [beq_builtin_none]; exact Bool.false_ne_true)]
  refine wpAny_bind (wpAny_callSpecialUnlessNone?_slot (name := Str.ofString "__contains__") hT F.slot_set_contains (wpAny_call_entry F.slot_set_contains hT entry_set_contains ?_ (F.args_set_contains_2 _ _)))
  unfold Builtin.«frozenset.__contains__» Builtin.Frozenset.oneOther
  simp only [List.isEmpty_nil, bind_assoc]
  unfold Builtin.Frozenset.addrOf Builtin.Frozenset.withSetAsKey setContains
  refine wpAny_bind (wpAny_pure ?_)
  try dsimp only
  refine wpAny_bind (wpAny_pure ?_)
  try dsimp only
  refine wpAny_bind (wpAny_tryCatch ?_)
  refine wpAny_holding ?_
  refine wpAny_bind (wpAny_pyHash_tuple (by show X.A.units + _ < cLine; omega) hx ?_)
  have fin : ∀ r : Option Nat, r.isSome = decide (k ∈ L.map (·.2)) → Q (.bl r.isSome) H := fun r e => by rw [e]; exact q
  refine wpAny_bind (B_find (s := { s with toks := s.toks + (k.length + 1) }) R hx (by show X.A.units + _ < cLine; omega) fun r hr => ?_)
  refine wpAny_pure ?_
  show wpAny _ _ (ret (Value.bool r.isSome)) _ _ _
  exact wpAny_pure ⟨_, rfl, wpAny_truthy_bool (wpAny_pure ⟨.bl r.isSome, H, I.tok _, rfl, fin r hr⟩)⟩
/-- s.add(t) -/
def rBAdd (K : PySem.W.Frag) (P : Program) (w : World) : V → List V → Hp → VK → Prop := fun x xs H Q => ∃ (a b : Addr) (k : List Int) (L : List (Addr × List Int)), x = V.ref a ∧ xs = [V.ref b] ∧ SqT K H b (k.map V.int) ∧ H a = some (SetBO P w a L) ∧ (∀ p ∈ L, SqT K H p.1 (p.2.map V.int)) ∧ L.length + 1 < 76 ∧
  ∀ L', (k ∈ L.map (·.2) → L' = L) → (k ∉ L.map (·.2) → L'.Perm ((b, k) :: L)) → Q .non (upd H a (SetBO P w a L'))
theorem mt_badd (hu : X.A.units + 64 < cLine) : MtR X "set.add" (rBAdd X.K X.prog X.w) := by
  intro pins s σ H x xs v us Q I rx rxs h
  obtain ⟨a, b, k, L, rfl, rfl, hb, ha, ht, hf, q⟩ := h
  cases rx
  cases rxs with
  | cons ry rt =>
    cases rt
    cases ry
    obtain ⟨es, ep, t, R⟩ := setBO_get I ha ht
    have hx := I.isT hb
    obtain ⟨o, ho, hex, hd⟩ := R.obj
    have hT : s.TypeIs (.ref a) "set" := ⟨o, ho, hex.1⟩
    refine wpAny_call_entry F.slot_set_add hT F.entry_set_add ?_ (F.args_set_add_2 _ _)
    unfold Builtin.«set.add» Builtin.Frozenset.oneOther
    simp only [List.isEmpty_nil, bind_assoc]
    unfold Builtin.Frozenset.addrOf setAdd
    refine wpAny_bind (wpAny_pure ?_)
    try dsimp only
    refine wpAny_bind (wpAny_pure ?_)
    try dsimp only
    refine wpAny_bind ?_
    refine wpAny_holding ?_
    refine wpAny_bind (wpAny_pyHash_tuple (by show X.A.units + _ < cLine; omega) hx ?_)
    refine SetB.add (s := { s with toks := s.toks + (k.length + 1) }) R hx (by show X.A.units + _ < cLine; omega) hf fun b' h' L' es' ep' t' sb R' c1 c2 => ?_
    show wpAny _ _ (ret Value.none) _ _ _
    have he : ∃ u, h'.get? a = some u := by
      obtain ⟨o', ho', _⟩ := R'.obj
      exact ⟨o', ho'⟩
    exact wpAny_pure ⟨_, rfl, .non, upd H a (SetBO X.prog X.w a L'), I.write (e := a) (t' := s.toks + (k.length + 1)) (by rw [ha]; trivial) (.inl rfl) (fun c u hc hu => (sb.2 c hc).trans hu) he (setBO_new R'.bare), rfl, q L' c1 c2⟩
def tBAdd (K : PySem.W.Frag) (P : Program) (w : World) (to : TE) (t : TA) : TE := fun σ H Q => to σ H fun x H1 => (∃ a L, x = V.ref a ∧ H1 a = some (SetBO P w a L)) ∧ t σ H1 fun xs H2 => rBAdd K P w x xs H2 Q
variable {o e : Expr} {es : List Expr} {to : TE} {t : TA} {apos cpos : Pos}
theorem pe_badd (hu : X.A.units + 64 < cLine) (ho : PE X o to) (ha : PA X (e :: es) t)
    (hbase : attributeBase o "add" X.env (eval o X.env) = eval o X.env := by rfl)
    (hfew : ((backTo cpos (starEach (e :: es) X.env)).all (fun x => !x.1) && (backToKw cpos (keywordEach [] X.env)).all (fun x => x.1.isSome)
      && decide ((e :: es).length + ([] : List Keyword).length + (if ([] : List Keyword).isEmpty then 0 else 1) < 30)) = true := by rfl)
    (hline : (apos.endLine == cpos.line) = true := by rfl) (hs : starEach (e :: es) X.env = (false, eval e X.env) :: starEach es X.env := by rfl) (hplain : (backTo cpos (starEach es X.env)).any (·.1) = false := by rfl) :
    PE X (.Call (.Attribute o "add" apos) (e :: es) [] cpos) (tBAdd X.K X.prog X.w to t) := by
  refine ⟨fun pins s σ H Q I h => ?_⟩
  refine wpAny_Call_method_late hbase hfew hline rfl (thn (ho.run pins s σ H _ I h) fun v s1 ⟨x, H1, I1, r1, ty, q1⟩ => ?_)
  obtain ⟨a, L, rfl, hka⟩ := ty
  cases r1
  obtain ⟨es0, ep, tt, ⟨ob, hob, hex, hd⟩, _⟩ := SetB0.has (I1.hok a _ hka).1
  have hT : s1.TypeIs (.ref a) "set" := ⟨ob, hob, hex.1⟩
  refine ⟨"set", "set.add", F.plainAttrs_set, F.slot_set_add, F.type_set_add, hT, fun b hb => by injection hb with hb; subst hb; exact ⟨ob, hob, hex.2.1⟩, ?_⟩
  have hA := ha.run cpos pins s1 σ H1 _ I1 q1
  rw [hs] at hA ⊢
  refine Calls.callWith_builtin (by show (false || (backTo cpos (starEach es X.env)).any (·.1)) = false; rw [hplain] <;> rfl) (Calls.evalArgs_plain ?_)
  exact thn hA fun us s2 ⟨vs, H2, I2, r2, q2⟩ => mt_badd hu pins s2 σ H2 (.ref a) vs (.ref a) us Q I2 rfl r2 q2
end
end L2

namespace L2
open PySem PySem.Spec PyProof.Rows
def PrAt (K : PySem.W.Frag) (H : Hp) (x : V) (d : Int × Int) : Prop := ∃ t, x = V.ref t ∧ SqT K H t [.int d.1, .int d.2]
/-- sorted(xs), xs a list of pairs of ints -/
def rSortP (K : PySem.W.Frag) : List V → Hp → VK → Prop := fun vs H Q => ∃ (a : Addr) (xs : List V) (ds : List (Int × Int)), vs = [V.ref a] ∧ SqL K H a xs ∧ Paired (PrAt K H) xs ds ∧
  ∀ ys es p, Paired (PrAt K H) ys es → es.Perm ds → es.Pairwise (fun a b => Mi.leP a b = true) → H p = none → Q (.ref p) (upd H p (.lst ys))
section
variable {X : Cx} {pins : List (Addr × Obj)} {σ : St} {H : Hp} {s : Shared}
theorem prAt_inj (I : Inv X pins σ H s) {x : V} {d e : Int × Int} (h1 : PrAt X.K H x d) (h2 : PrAt X.K H x e) : d = e := by
  obtain ⟨t, rfl, s1⟩ := h1
  obtain ⟨t', e2, s2⟩ := h2
  obtain rfl := V.ref.inj e2
  have z := I.tuple_inj s1 s2
  simp only [List.cons.injEq, V.int.injEq, and_true] at z
  exact Prod.ext z.1 z.2
open Classical in
noncomputable def prOf (K : PySem.W.Frag) (H : Hp) (u : V) : Int × Int := if h : ∃ d, PrAt K H u d then h.choose else (0, 0)
theorem prOf_eq (I : Inv X pins σ H s) {x : V} {d : Int × Int} (r : PrAt X.K H x d) : prOf X.K H x = d := by
  have h : ∃ d, PrAt X.K H x d := ⟨d, r⟩
  unfold prOf
  rw [dif_pos h]
  exact prAt_inj I h.choose_spec r
theorem prs_map (I : Inv X pins σ H s) {vs : List V} {xs : List (Int × Int)} (q : Paired (PrAt X.K H) vs xs) : vs.map (prOf X.K H) = xs := by
  induction q with
  | nil => rfl
  | cons r t ih => rw [List.map_cons, prOf_eq I r, ih]
theorem prs_back (I : Inv X pins σ H s) {vs : List V} (h : ∀ u ∈ vs, ∃ d, PrAt X.K H u d) : Paired (PrAt X.K H) vs (vs.map (prOf X.K H)) := by
  induction vs with
  | nil => exact .nil
  | cons u vs ih =>
    obtain ⟨d, hd⟩ := h u (List.mem_cons_self ..)
    exact .cons (by rw [prOf_eq I hd]; exact hd) (ih fun u' m => h u' (List.mem_cons_of_mem _ m))
theorem prs_mem {α : Type} {R : V → α → Prop} {vs : List V} {xs : List α} (q : Paired R vs xs) : ∀ u ∈ vs, ∃ d, R u d := by
  induction q with
  | nil => exact fun u m => nomatch m
  | cons r t ih =>
    intro u m
    rcases List.mem_cons.mp m with rfl | m
    · exact ⟨_, r⟩
    · exact ih u m
theorem leP_iff {a b : Int × Int} : Mi.leP a b = true ↔ (a.1 < b.1 ∨ (a.1 = b.1 ∧ a.2 ≤ b.2)) := by unfold Mi.leP; exact decide_eq_true_iff
theorem cr_sortP : CallR X (.builtin "sorted") (rSortP X.K) := by
  intro pins s σ H vs us Q I r h
  obtain ⟨a, xs, ds, rfl, hsq, hx, q⟩ := h
  have hd := prs_mem hx
  obtain ⟨its, rv, hl, hz⟩ := I.list hsq
  obtain ⟨u, rfl, ru⟩ := vals1 r
  obtain rfl : u = Value.ref a := ru
  obtain ⟨e1, e2⟩ := refs_back rv fun x m => by
    obtain ⟨d, t, e, _⟩ := hd x m
    exact ⟨t, e⟩
  refine SrtO.sorted_pairsO (k := fun u => prOf X.K H (backV u)) hl.isList (by rw [← rv.length]; exact hz) (fun v hv => ?_) fun h' d out h1 h2 kp hd' hn => ?_
  · obtain ⟨t, rfl⟩ := e2 v hv
    have hm : V.ref t ∈ xs := by rw [e1]; exact List.mem_map.mpr ⟨_, hv, rfl⟩
    obtain ⟨d, hp⟩ := hd _ hm
    have ep : prOf X.K H (backV (Value.ref t)) = d := prOf_eq I hp
    obtain ⟨t', e, ht⟩ := hp
    cases e
    obtain ⟨its2, r2, ⟨o, ho, hc, n, hd2⟩, _⟩ := I.tuple ht
    obtain ⟨u1, u2, rfl, ri, rj⟩ := vals2 r2
    obtain ⟨t1, rfl⟩ := ri
    obtain ⟨t2, rfl⟩ := rj
    refine ⟨t, o, t1, t2, n, rfl, ho, hc, ?_⟩
    rw [ep]; exact hd2
  · have h3 : ∀ u ∈ out, ∃ a, u = Value.ref a := fun u hu => e2 u (h2.perm.mem_iff.mp hu)
    obtain ⟨n, hn⟩ := hn
    have hb : (out.map backV).Perm xs := by rw [e1]; exact h2.perm.map backV
    refine ⟨.ref d, upd H d (.lst (out.map backV)), I.laid (t' := s.toks) kp hd' ⟨?_, out, n, vals_back h3, hn⟩, rfl, q _ _ d (prs_back I fun u m => hd u (hb.mem_iff.mp m)) ?_ ?_ (I.hok.fresh hd')⟩
    · rw [hb.length_eq]; exact hz
    · rw [← prs_map I hx]; exact hb.map _
    · rw [List.pairwise_map, List.pairwise_map]
      refine List.Pairwise.imp (fun {u u'} z => ?_) h1
      rw [leP_iff]
      have := SrtO.lexB_no.mp z
      omega
end
end L2
namespace G
open PySem PySem.Spec PyProof.Rows L2
abbrev yPair : Ty (Int × Int) := yTup (sCons yInt (sOne yInt))
section
variable {X : Cx} {P : Program} {w : World} {K : PySem.W.Frag} {σ σ' : L2.St} {H : Hp} {F F1 F2 Fu : List Addr} {ta tb te to : TE} {v u x y : V} {i j : Int} {Q : VK}
theorem pair_sq {d : Int × Int} (r : yPair.rep K H F v d) : F = [] ∧ ∃ a, v = .ref a ∧ SqT K H a [.int d.1, .int d.2] := by
  obtain ⟨a, vs, rfl, s, q⟩ := r
  obtain ⟨v1, ws, F1, F2, rfl, rfl, q1, q2⟩ := q
  obtain ⟨v2, rfl, q2⟩ := q2
  obtain ⟨rfl, rfl⟩ := q1
  obtain ⟨rfl, rfl⟩ := q2
  exact ⟨rfl, a, rfl, s⟩
theorem pair_mk {a : Addr} {d : Int × Int} (s : SqT K H a [.int d.1, .int d.2]) : yPair.rep K H [] (.ref a) d := ⟨a, _, rfl, s, _, _, [], [], rfl, rfl, ⟨rfl, rfl⟩, _, rfl, rfl, rfl⟩
/-! ### sorted pairs -/
theorem cl_sortP {K : PySem.W.Frag} (e : X.K = K := by rfl) : CallR X (.builtin "sorted") (rSortP K) := by subst e; exact cr_sortP
theorem leP_uniq : ∀ {xs ys : List (Int × Int)}, xs.Perm ys → xs.Pairwise (fun a b => Mi.leP a b = true) → ys.Pairwise (fun a b => Mi.leP a b = true) → xs = ys
  | [], ys, p, _, _ => p.nil_eq
  | x :: xs, [], p, _, _ => absurd p.length_eq (by simp)
  | x :: xs, y :: ys, p, h1, h2 => by
    have hx := List.pairwise_cons.mp h1
    have hy := List.pairwise_cons.mp h2
    have e : x = y := by
      have a1 : y ∈ x :: xs := p.mem_iff.mpr (List.mem_cons_self ..)
      have a2 : x ∈ y :: ys := p.mem_iff.mp (List.mem_cons_self ..)
      rcases List.mem_cons.mp a1 with z | z
      · exact z.symm
      · rcases List.mem_cons.mp a2 with q | q
        · exact q
        · have b1 := leP_iff.mp (hx.1 y z)
          have b2 := leP_iff.mp (hy.1 x q)
          exact Prod.ext (by omega) (by omega)
    subst e
    rw [leP_uniq (List.Perm.cons_inv p) hx.2 hy.2]
theorem sortP_pw (xs : List (Int × Int)) : (Mi.sortP xs).Pairwise (fun a b => Mi.leP a b = true) :=
  List.pairwise_mergeSort (le := Mi.leP) (fun a b c h1 h2 => by rw [leP_iff] at *; omega) (fun a b => by rw [Bool.or_eq_true, leP_iff, leP_iff]; omega) xs
theorem pair_at {d : Int × Int} : yPair.rep K H [] u d ↔ PrAt K H u d := by
  constructor
  · intro r
    obtain ⟨_, a, e, s⟩ := pair_sq r
    exact ⟨a, e, s⟩
  · rintro ⟨a, rfl, s⟩
    exact pair_mk s
theorem w_sortedP {xs : List (Int × Int)} (r : (yLst yPair).rep K H F v xs) (k : ∀ p H', H p = none → Chg [] H H' → (yLst yPair).rep K H' [p] (.ref p) (Mi.sortP xs) → Q (.ref p) H') : rSortP K [v] H Q := by
  obtain ⟨a, vs, rfl, s, q⟩ := lst_sq r
  refine ⟨a, vs, xs, rfl, s, Paired.mapP q fun _ _ z => pair_at.mp z, fun ys es p hp pm so np => ?_⟩
  have e : es = Mi.sortP xs := leP_uniq (pm.trans (List.mergeSort_perm _ _).symm) so (sortP_pw xs)
  subst e
  exact k p _ np (Chg.new np) ⟨p, ys, rfl, rfl, upd_same, Paired.mapP hp fun _ _ z => Ty.ex (pair_at.mpr z) (Chg.new np)⟩
/-! ### sets of pairs -/
def ySetP (P : Program) (w : World) : Ty (List (Int × Int)) where
  rep K H F v xs := ∃ a L, v = .ref a ∧ F = [a] ∧ H a = some (SetBO P w a L) ∧ (∀ p ∈ L, SqT K H p.1 (p.2.map V.int)) ∧ L.length = xs.length ∧ ∀ k : Int × Int, [k.1, k.2] ∈ L.map (·.2) ↔ k ∈ xs
  keep {K H H' F v xs} h k := by
    obtain ⟨a, L, e, rfl, g, t, l, m⟩ := h
    exact ⟨a, L, e, rfl, k a _ g (.inl (List.mem_singleton.mpr rfl)), fun p hp => SqT.keeps (t p hp) fun b o hb z => k b o hb (.inr z), l, m⟩
  dom {K H F v xs} h b m := by
    obtain ⟨a, L, e, rfl, g, _⟩ := h
    rw [List.mem_singleton] at m; subst m
    exact ⟨_, g, fun z => z⟩
theorem cl_setP0 {P : Program} {w : World} (e : X.prog = P := by rfl) (e2 : X.w = w := by rfl) : CallR X (.type "set") (rSetB0 P w) := by subst e e2; exact cr_setB0
theorem w_setP0 (k : ∀ p H', H p = none → Chg [] H H' → (ySetP P w).rep K H' [p] (.ref p) [] → Q (.ref p) H') : rSetB0 P w [] H Q := ⟨rfl, fun p np => k p _ np (Chg.new np) ⟨p, [], rfl, rfl, upd_same, (fun q hq => absurd hq List.not_mem_nil), rfl, (fun k => ⟨fun z => absurd z List.not_mem_nil, fun z => absurd z List.not_mem_nil⟩)⟩⟩
theorem op_inP {K : PySem.W.Frag} {P : Program} {w : World} (hu : X.A.units + 64 < cLine) (e0 : X.K = K := by rfl) (e : X.prog = P := by rfl) (e2 : X.w = w := by rfl) : OpR X (compareOp .In) (rBIn K P w) := by subst e0 e e2; exact op_bin hu
theorem w_inP {xs : List (Int × Int)} {d : Int × Int} (r : (ySetP P w).rep K H F v xs) (ru : yPair.rep K H Fu u d) (k : Q (.bl (xs.contains d)) H) : rBIn K P w u v H Q := by
  obtain ⟨a, L, rfl, rfl, g, t, l, m⟩ := r
  obtain ⟨_, b, rfl, s⟩ := pair_sq ru
  refine ⟨b, a, [d.1, d.2], L, rfl, rfl, s, g, t, ?_⟩
  have e : decide ([d.1, d.2] ∈ L.map (·.2)) = xs.contains d := by
    rw [List.contains_eq_mem]
    exact decide_eq_decide.mpr (m d)
  rw [e]; exact k
theorem w_badd {ts : TA} (h : to σ H fun x H1 => (∃ a L, x = V.ref a ∧ H1 a = some (SetBO P w a L)) ∧ ts σ H1 fun xs H2 => rBAdd K P w x xs H2 Q) : tBAdd K P w to ts σ H Q := h
theorem tyv_setP {xs : List (Int × Int)} (r : (ySetP P w).rep K H F v xs) : ∃ a L, v = V.ref a ∧ H a = some (SetBO P w a L) := by
  obtain ⟨a, L, rfl, rfl, g, _⟩ := r
  exact ⟨a, L, rfl, g⟩
theorem m_saddP {xs ys : List (Int × Int)} {d : Int × Int} (r : (ySetP P w).rep K H F v xs) (ru : yPair.rep K H Fu u d) (hm : Mi.saddP xs d = some ys) (k : ∀ H', Chg F H H' → (ySetP P w).rep K H' F v ys → Q .non H') : rBAdd K P w v [u] H Q := by
  obtain ⟨a, L, rfl, rfl, g, t, l, m⟩ := r
  obtain ⟨_, b, rfl, s⟩ := pair_sq ru
  unfold Mi.saddP at hm
  split at hm
  · rename_i hz
    obtain rfl := Option.some.inj hm
    refine ⟨a, b, [d.1, d.2], L, rfl, rfl, s, g, t, by omega, fun L' c1 c2 => ?_⟩
    have c : Chg [a] H (upd H a (SetBO P w a L')) := Chg.wr g (fun z => z)
    have kt : ∀ {b' : Addr} {vs : List V}, SqT K H b' vs → SqT K (upd H a (SetBO P w a L')) b' vs := fun sq => SqT.keeps sq fun b o hb z => c.keep b o hb (.inr z)
    by_cases hc : d ∈ xs
    · have e := c1 ((m d).mpr hc)
      rw [if_pos (show xs.contains d = true by rw [List.contains_eq_mem]; exact decide_eq_true hc)] at k
      exact k _ c ⟨a, L', rfl, rfl, upd_same, fun p hp => kt (t p (e ▸ hp)), by rw [e]; exact l, by rw [e]; exact m⟩
    · have pm := c2 fun z => hc ((m d).mp z)
      rw [if_neg (show ¬ xs.contains d = true by rw [List.contains_eq_mem, decide_eq_false hc]; exact Bool.false_ne_true)] at k
      refine k _ c ⟨a, L', rfl, rfl, upd_same, fun p hp => ?_, by rw [pm.length_eq, List.length_cons, List.length_append, l]; rfl, fun q => ?_⟩
      · rcases List.mem_cons.mp (pm.mem_iff.mp hp) with rfl | hp
        · exact kt s
        · exact kt (t p hp)
      · rw [(pm.map (·.2)).mem_iff, List.map_cons, List.mem_cons, m q, List.mem_append, List.mem_singleton]
        constructor
        · rintro (z | z)
          · simp only [List.cons.injEq, and_true] at z
            exact .inr (Prod.ext z.1 z.2)
          · exact .inl z
        · rintro (z | rfl)
          · exact .inr z
          · exact .inl rfl
  · cases hm
theorem pe_saddP {K : PySem.W.Frag} {P : Program} {w : World} {o e : Expr} {es : List Expr} {t : TA} {apos cpos : Pos} (hu : X.A.units + 64 < cLine) (ho : PE X o to) (ha : PA X (e :: es) t) (e0 : X.K = K := by rfl) (e1 : X.prog = P := by rfl) (e2 : X.w = w := by rfl)
    (hbase : attributeBase o "add" X.env (eval o X.env) = eval o X.env := by rfl)
    (hfew : ((backTo cpos (starEach (e :: es) X.env)).all (fun x => !x.1) && (backToKw cpos (keywordEach [] X.env)).all (fun x => x.1.isSome)
      && decide ((e :: es).length + ([] : List Keyword).length + (if ([] : List Keyword).isEmpty then 0 else 1) < 30)) = true := by rfl)
    (hline : (apos.endLine == cpos.line) = true := by rfl) (hs : starEach (e :: es) X.env = (false, eval e X.env) :: starEach es X.env := by rfl) (hplain : (backTo cpos (starEach es X.env)).any (·.1) = false := by rfl) :
    PE X (.Call (.Attribute o "add" apos) (e :: es) [] cpos) (tBAdd K P w to t) := by subst e0 e1 e2; exact pe_badd hu ho ha hbase hfew hline hs hplain
end
end G

namespace G
open PySem PySem.Spec PyProof.Rows L2
theorem pg_tupk {X : Cx} {K : PySem.W.Frag} {es : List Expr} {k : Nat} {t : TGs} {n : Nat} {pos : Pos} (hc : X.calm = true) (h : PGs X es t) (e : X.K = K := by rfl)
    (hn : (assignEach es X.env).length = n := by rfl) (hst : (assignEach es X.env).findIdx? (·.1) = none := by rfl) : PG X (.Tuple es k pos) (gTup K n t) := by subst e; exact pg_tup hc h hn hst
theorem st_eqT {σ σ' : L2.St} {H : Hp} {t : TT} {Q : Bool → Hp → Prop} (e : σ = σ') (h : t σ' H Q) : t σ H Q := e ▸ h
end G

namespace G
open PySem PySem.Spec PyProof.Rows L2
section
variable {K : PySem.W.Frag} {σ σ' : L2.St} {H : Hp} {F F1 F2 Fu : List Addr} {ta tb tc te : TE} {tA : TT} {v u x y : V} {i j k : Int} {α β : Type} {τ : Ty α} {υ : Ty β} {Q : VK} {c : Bool}
/-- a < b < c -/
theorem val_chainI {p q : Int → Int → Bool} (ha : Val ta σ H (.int i)) (hb : Val tb σ H (.int j)) (hc : Val tc σ H (.int k)) : Val (tChain (rI0 fun i j => .bl (p i j)) (rI0 fun i j => .bl (q i j)) ta tb tc) σ H (.bl (p i j && q j k)) := fun Q z => by
  refine ha _ (hb _ ⟨i, j, rfl, rfl, p i j, rfl, ?_⟩)
  cases e : p i j with
  | true =>
    rw [if_pos rfl]
    refine hc _ ⟨j, k, rfl, rfl, ?_⟩
    rw [e, Bool.true_and] at z; exact z
  | false =>
    rw [if_neg Bool.false_ne_true]
    rw [e, Bool.false_and] at z; exact z
/-- a if t else b -/
theorem val_if (ht : Ans tA σ H c) (h1 : c = true → Val ta σ H v) (h2 : c = false → Val tb σ H v) : Val (tIf tA ta tb) σ H v := fun Q z => ht _ (by
  cases hc : c with
  | true => rw [if_pos rfl]; exact h1 hc _ z
  | false => rw [if_neg Bool.false_ne_true]; exact h2 hc _ z)
theorem val_ifO {A B : Option α} {z : α} {f : α → V} (ht : Ans tA σ H c) (hz : (if c = true then A else B) = some z) (h1 : A = some z → Val ta σ H (f z)) (h2 : B = some z → Val tb σ H (f z)) : Val (tIf tA ta tb) σ H (f z) :=
  val_if ht (fun hc => h1 (by rw [if_pos hc] at hz; exact hz)) fun hc => h2 (by rw [hc, if_neg Bool.false_ne_true] at hz; exact hz)
end
end G

namespace G
open PySem PySem.Spec PyProof.Rows L2
section
variable {X : Cx} {K : PySem.W.Frag} {σ σ' : L2.St} {H : Hp} {F F1 F2 Fu : List Addr} {ta tb te : TE} {v u x y : V} {Q : VK} {b c : Bool}
/-- b is True -/
def rIsB : R2 := fun x y H Q => ∃ a b, x = .bl a ∧ y = .bl b ∧ Q (.bl (decide (a = b))) H
def rNotB : R2 := fun x y H Q => ∃ a b, x = .bl a ∧ y = .bl b ∧ Q (.bl (!decide (a = b))) H
theorem op_isB : OpR X (compareOp .Is) rIsB := op_is_bl
theorem op_notB : OpR X (compareOp .IsNot) rNotB := op_isnot_bl
theorem w_isB (k : Q (.bl (decide (b = c))) H) : rIsB (.bl b) (.bl c) H Q := ⟨b, c, rfl, rfl, k⟩
theorem w_notB (k : Q (.bl (!decide (b = c))) H) : rNotB (.bl b) (.bl c) H Q := ⟨b, c, rfl, rfl, k⟩
theorem val_isB (ha : Val ta σ H (.bl b)) (hb : Val tb σ H (.bl c)) : Val (tOp rIsB ta tb) σ H (.bl (decide (b = c))) := val_op ha hb fun Q q => w_isB q
theorem val_notB (ha : Val ta σ H (.bl b)) (hb : Val tb σ H (.bl c)) : Val (tOp rNotB ta tb) σ H (.bl (!decide (b = c))) := val_op ha hb fun Q q => w_notB q
end
end G

namespace G
open PySem PySem.Spec PyProof.Rows L2
/-! ### a list of a few things of kinds of their own -/
def yHl {α : Type} (ts : Tys α) : Ty α where
  rep K H F v d := ∃ a vs G, v = .ref a ∧ F = a :: G ∧ a ∉ G ∧ H a = some (.lst vs) ∧ ts.rep K H G vs d
  keep {K H H' F v d} h k := by
    obtain ⟨a, vs, G, e, rfl, na, g, r⟩ := h
    exact ⟨a, vs, G, e, rfl, na, k a _ g (.inl (List.mem_cons_self ..)), ts.keep r fun b o hb z => k b o hb (z.imp (List.mem_cons_of_mem _) id)⟩
  dom {K H F v d} h b m := by
    obtain ⟨a, vs, G, e, rfl, na, g, r⟩ := h
    rcases List.mem_cons.mp m with rfl | m
    · exact ⟨_, g, fun z => z⟩
    · exact ts.dom r b m
section
variable {K : PySem.W.Frag} {σ σ' : L2.St} {H : Hp} {F F1 F2 Fu G : List Addr} {ta tb te : TE} {v u x y : V} {i j : Int} {α β : Type} {τ : Ty α} {υ : Ty β} {ts : Tys α} {Q : VK} {D : Ends} {nx : L2.St → Hp → Prop}
theorem itm_hl {n : Nat} {p : α → β} {d : α} (A : At ts n υ p) (r : (yHl ts).rep K H F v d) :
    ∃ u F1, υ.rep K H F1 u (p d) ∧ (∀ a ∈ F1, a ∈ F) ∧ (∀ {Q : VK}, Q u H → rIxL K v (.int (n : Int)) H Q) ∧ ∀ {σ : L2.St} {ta tb : TE}, Val ta σ H v → Val tb σ H (.int (n : Int)) → Val (tOp (rIxL K) ta tb) σ H u := by
  obtain ⟨a, vs, G, rfl, rfl, na, g, q⟩ := r
  obtain ⟨u, F1, e, ru, sub⟩ := A q
  have k : ∀ {Q : VK}, Q u H → rIxL K (.ref a) (.int (n : Int)) H Q := fun k => ⟨a, vs, n, u, rfl, rfl, .inl (.inl g), atI_nat e, k⟩
  exact ⟨u, F1, ru, fun b hb => List.mem_cons_of_mem _ (sub b hb), k, fun ha hb => val_op ha hb fun Q q => k q⟩
theorem e_hl {vs : List V} {d : α} (z : vs.length ≤ Mi.big) (r : ts.rep K H G vs d) (k : ∀ p H', H p = none → Chg [] H H' → (yHl ts).rep K H' (p :: G) (.ref p) d → Q (.ref p) H') : LstG vs H Q :=
  ⟨sz z, fun p np => k p _ np (Chg.new np) ⟨p, vs, G, rfl, rfl, (fun hp => by
    obtain ⟨o, ho, _⟩ := ts.dom r p hp
    rw [np] at ho; cases ho), upd_same, ts.keep r fun b o e _ => by rw [upd_ne (ne_of_none e np)]; exact e⟩⟩
def AllL (ts : Tys α) : Prop := ∀ {K : PySem.W.Frag} {H : Hp} {G : List Addr} {vs : List V} {d : α}, ts.rep K H G vs d → ∀ u ∈ vs, ∃ p xs, u = .ref p ∧ p ∈ G ∧ H p = some (.lst xs)
theorem als_one : AllL (sOne (yLst τ)) := fun r u m => by
  obtain ⟨w, rfl, q⟩ := r
  obtain rfl := List.mem_singleton.mp m
  obtain ⟨p, vs, rfl, rfl, g, _⟩ := q
  exact ⟨p, vs, rfl, List.mem_singleton.mpr rfl, g⟩
theorem als_cons (h : AllL ts) : AllL (sCons (yLst υ) ts) := fun r u m => by
  obtain ⟨w, ws, F1, F2, rfl, rfl, q, qs⟩ := r
  rcases List.mem_cons.mp m with rfl | m
  · obtain ⟨p, vs, rfl, rfl, g, _⟩ := q
    exact ⟨p, vs, rfl, List.mem_append_left _ (List.mem_singleton.mpr rfl), g⟩
  · obtain ⟨p, xs, e, hp, g⟩ := h qs u m
    exact ⟨p, xs, e, List.mem_append_right _ hp, g⟩
/-- for part in parts: part.clear() -/
theorem l_clear {tb : TS} {d : α} {s : Nat} (al : AllL ts) (r : (yHl ts).rep K H F v d) (hs : s < σ.length)
    (hb : ∀ (D : Ends) (σ : L2.St) (H : Hp) (p : Addr) (xs : List V), σ[s]? = some (some (.ref p)) → H p = some (.lst xs) → D.nx σ (upd H p (.lst [])) → tb D σ H)
    (hk : ∀ σ' H', Chg F H H' → (∃ y, σ' = σ.set s y) → nx σ' H') :
    ∃ a, v = .ref a ∧ (∃ xs, SqL K H a xs) ∧ LoopG (Itl K a) (gName s) tb D nx σ H := by
  obtain ⟨a, vs, G, rfl, rfl, na, g, q⟩ := r
  have hl := al q
  have ini : ∃ y, σ = σ.set s y := ⟨σ[s], (List.set_getElem_self hs).symm⟩
  refine ⟨a, rfl, ⟨vs, .inl (.inl g)⟩, fun i m σ' H' => m = vs.length - i ∧ i ≤ vs.length ∧ Chg (a :: G) H H' ∧ H' a = some (.lst vs) ∧ (∀ u ∈ vs, ∃ p xs, u = .ref p ∧ p ∈ G ∧ H' p = some (.lst xs)) ∧ (∃ y, σ' = σ.set s y), ⟨vs.length, by omega, Nat.zero_le _, Chg.refl H, g, hl, ini⟩, ?_⟩
  rintro i m σ' H' ⟨rfl, hi, c, ga, hu, y', hy⟩
  by_cases hlt : i < vs.length
  · have hv : vs[i]? = some vs[i] := List.getElem?_eq_getElem hlt
    refine .inr ⟨⟨vs, vs[i], .inl (.inl ga), hv⟩, fun σ2 H2 => i + 1 ≤ vs.length ∧ Chg (a :: G) H H2 ∧ H2 a = some (.lst vs) ∧ (∀ u ∈ vs, ∃ p xs, u = .ref p ∧ p ∈ G ∧ H2 p = some (.lst xs)) ∧ (∃ y, σ2 = σ.set s y), fun σ2 H2 p' => ⟨vs.length - (i + 1), by omega, rfl, p'⟩, fun x H2 y => ?_⟩
    obtain ⟨rfl, y⟩ := y
    obtain rfl : x = vs[i] := Option.some.inj ((y _ (.inl (.inl ga))).symm.trans hv)
    obtain ⟨p, xs, ep, hp, gp⟩ := hu _ (List.mem_of_getElem? hv)
    rw [ep]
    have hs2 : s < σ'.length := by rw [hy, List.length_set]; exact hs
    refine hb _ _ _ p xs (by show (σ'.set s (some (.ref p)))[s]? = _; rw [List.getElem?_set_self hs2]) gp ⟨hlt, ?_, ?_, fun u m => ?_, ?_⟩
    · exact c.trans ((Chg.wr gp (fun z => z)).mono fun b hb => by rw [List.mem_singleton] at hb; subst hb; exact List.mem_cons_of_mem _ hp)
    · have : a ≠ p := fun e => by subst e; exact na hp
      rw [upd_ne this]; exact ga
    · obtain ⟨p2, ys, e2, hp2, g2⟩ := hu u m
      by_cases e : p2 = p
      · subst e; exact ⟨p2, [], e2, hp2, upd_same⟩
      · exact ⟨p2, ys, e2, hp2, by rw [upd_ne e]; exact g2⟩
    · exact ⟨_, by show σ'.set s _ = _; rw [hy, List.set_set]⟩
  · obtain rfl : i = vs.length := by omega
    exact .inl ⟨⟨vs, .inl (.inl ga), Nat.le_refl _⟩, hk σ' H' c ⟨y', hy⟩⟩
end
end G

namespace L2
open PySem PySem.Spec PyProof.Rows
section
variable {prog : Program} {w : World} {A : Around} {E : Value → Shared → Prop} {s : Shared}
theorem collect_tupleA {l : Addr} {vs : List Value} {Q : List Value → Shared → Prop} (hl : s.heap.IsTuple l vs.toArray) (hsz : vs.length ≤ sizeLine)
    (h : Q vs { s with heap := (s.heap.push (seqObj "list" #[] 0)).update s.heap.objs.size (Obj.mapSeq (· ++ vs.toArray)) }) :
    wpAny (model prog w) A (collect (.ref l)) Q E s := by
  obtain ⟨o, ho, hc, n, hd⟩ := id hl
  unfold collect
  refine wpAny_bind (wpAny_runValue (codeAny_builtin entry_proto_collect' ?_))
  show wpAny _ _ (do again (.builtin "list.__iadd__" ⟨[← newList [], .ref l], []⟩)) _ _ s
  refine wpAny_bind (wpAny_newList (wpAny_pure ⟨Code.quiet_builtin _ (by decide +kernel), codeAny_builtin entry_list_iadd' ?_⟩))
  show wpAny _ _ (Builtin.List.listExtendWith (.ref s.heap.objs.size) (.ref l) (.ref s.heap.objs.size)) _ _ { s with heap := s.heap.push (seqObj "list" #[] 0) }
  unfold Builtin.List.listExtendWith
  have ho' : (s.heap.push (seqObj "list" #[] 0)).get? l = some o := Heap.get?_push_of_some _ ho
  refine wpAny_bind (wpAny_typeOf (T := "tuple") ⟨o, ho', hc⟩ ?_)
  have ht : (Value.type "tuple" == Value.type "tuple") = true := by rfl
  rw [if_pos (by rw [ht]; simp)]
  refine wpAny_bind (listItems_at ho' hd ?_)
  refine wpAny_bind (listItems_at (xs := #[]) (n := 0) (Heap.get?_push_size _ rfl) rfl ?_)
  rw [if_neg (by simp)]
  refine wpAny_bind (listUpdate_at (xs := #[]) (n := 0) (Heap.get?_push_size _ rfl) rfl ?_ (Nat.zero_le _) (by show (#[] ++ vs.toArray).size ≤ sizeLine + 1; simp only [Array.size_append, List.size_toArray, List.length_nil]; omega))
  refine wpAny_pure ?_
  show wpAny (model prog w) A (do
      let o ← load s.heap.objs.size
      match o.data with
      | .seq xs _ => pure xs.toList
      | _ => unsupported "internal:collect") Q E { s with heap := (s.heap.push (seqObj "list" #[] 0)).update s.heap.objs.size (Obj.mapSeq (· ++ vs.toArray)) }
  refine wpAny_bind (wpAny_load (get?_update_seq (Heap.get?_push_size _ rfl) _) ?_)
  show wpAny _ _ (pure ((#[] : Array Value) ++ vs.toArray).toList) Q E _
  rw [show ((#[] : Array Value) ++ vs.toArray).toList = vs by simp]
  exact wpAny_pure h
theorem sorted_ordT {l : Addr} {vs : List Value} {ltv : Value → Value → Bool} {Q : Value → Shared → Prop} (O : SrtO.Swo ltv) (hl : s.heap.IsTuple l vs.toArray) (hz : vs.length ≤ sizeLine)
    (hS : 2 ≤ vs.length → ∀ (h₁ : Heap) (a : Addr), h₁.get? a = some (seqObj "list" vs.toArray 0) → (∀ b o, s.heap.get? b = some o → b ≠ a ∧ h₁.get? b = some o) → SrtO.SortableO prog w A.in1.in1 { s with heap := h₁ } a vs ltv)
    (h : ∀ out : List Value, SrtO.Srtd ltv out → SrtO.Stb ltv out vs → Q (.ref (s.heap.objs.size + 1)) { s with heap := sortedAll s.heap vs out.toArray }) :
    wpAny (model prog w) A (call (.builtin "sorted") [.ref l]) Q E s := by
  refine Calls.call_function_entry kind_sorted plain_sorted entry_sorted (args_sorted1 _) ?_
  unfold Builtin.«sorted»
  refine wpAny_bind (m := checkCount "sorted" 1 1 _) (wpAny_pure ?_)
  refine wpAny_bind (collect_tupleA hl hz ?_)
  refine wpAny_bind (wpAny_newList ?_ hz)
  have hsz : ((s.heap.push (seqObj "list" #[] 0)).update s.heap.objs.size (Obj.mapSeq (· ++ vs.toArray))).objs.size = s.heap.objs.size + 1 := by
    rw [Heap.size_update, size_push']
  have hoL : (((s.heap.push (seqObj "list" #[] 0)).update s.heap.objs.size (Obj.mapSeq (· ++ vs.toArray))).push (seqObj "list" vs.toArray 0)).get? (s.heap.objs.size + 1) = some (seqObj "list" vs.toArray 0) := by
    rw [← hsz]; exact Heap.get?_push_size _ rfl
  have keep : ∀ b o, s.heap.get? b = some o → b ≠ s.heap.objs.size + 1 ∧ (((s.heap.push (seqObj "list" #[] 0)).update s.heap.objs.size (Obj.mapSeq (· ++ vs.toArray))).push (seqObj "list" vs.toArray 0)).get? b = some o := fun b o q => by
    have hlt : b < s.heap.objs.size := Heap.lt_size q
    refine ⟨Nat.ne_of_lt (Nat.lt_succ_of_lt hlt), Heap.get?_push_of_some _ ?_⟩
    rw [Heap.get?_update_ne _ _ _ _ (Nat.ne_of_lt hlt)]
    exact Heap.get?_push_of_some _ q
  show wpAny _ _ _ _ _ { s with heap := ((s.heap.push (seqObj "list" #[] 0)).update s.heap.objs.size (Obj.mapSeq (· ++ vs.toArray))).push (seqObj "list" vs.toArray 0) }
  rw [hsz]
  refine wpAny_bind (wpAny_holding (wpAny_call_entry slot_list_sort ⟨_, hoL, rfl⟩ entry_list_sort (SrtO.list_sort_ord O hoL hz (fun h2 => hS h2 _ _ hoL keep) fun out hs hb => ⟨_, rfl, ?_⟩) (args_list_sort _)))
  exact wpAny_pure ⟨_, rfl, h out hs hb⟩
theorem iter_intTup {l : Addr} {xs : Array (Int × Tok)} {Q : Value → Shared → Prop} (hl : s.heap.IsTuple l (intItems xs))
    (h : ∀ s₂ : Shared, s₂ = { s with heap := s.heap.push { cls := .type "tuple_iterator", data := .fields #[.ref l, .int 0 0] } } →
      (s₂.heap.IsTupleIter s.heap.objs.size l 0 ∧ s₂.heap.IsTuple l (intItems xs)) → (∀ b ∈ [s.heap.objs.size, l], b < s₂.heap.objs.size) → l ≠ s.heap.objs.size → Q (.ref s.heap.objs.size) s₂) :
    wpAny (model prog w) A (pyIter (.ref l)) Q E s := by
  have hlt : l < s.heap.objs.size := by obtain ⟨_, e, _⟩ := hl; exact Heap.lt_size e
  refine wpAny_pyIter_tuple hl (h _ rfl ⟨⟨_, Heap.get?_push_size _ rfl, rfl, rfl⟩, hl.push _⟩ (fun b hb => ?_) (Nat.ne_of_lt hlt))
  show b < (s.heap.push _).objs.size
  rw [Heap.size_push]
  rcases List.mem_cons.mp hb with rfl | hb
  · exact Nat.lt_succ_self _
  · rcases List.mem_cons.mp hb with rfl | hb
    · exact Nat.lt_succ_of_lt hlt
    · cases hb
theorem old_keptT {l : Addr} {h' : Heap} (hk : ∀ b o, b ∉ [s.heap.objs.size] → (s.heap.push { cls := .type "tuple_iterator", data := .fields #[.ref l, .int 0 0] }).get? b = some o → h'.get? b = some o) :
    ∀ b o, s.heap.get? b = some o → h'.get? b = some o := fun b o e => by
  refine hk b o (fun hm => ?_) (Heap.get?_push_of_some _ e)
  rcases List.mem_cons.mp hm with e1 | hm
  · exact absurd (e1 ▸ Heap.lt_size e) (Nat.lt_irrefl _)
  · cases hm
theorem max_intTup {l : Addr} {xs : Array (Int × Tok)} {Q : Value → Shared → Prop} (hh : A.handled = none) (hl : s.heap.IsTuple l (intItems xs)) (hne : 0 < xs.size)
    (h : ∀ v h' tk, (intItems xs)[argBest (fun i j => decide (numAt xs i > numAt xs j)) (xs.size - 1)]? = some v → (∀ b o, s.heap.get? b = some o → h'.get? b = some o) → Q v { s with heap := h', toks := tk }) :
    wpAny (model prog w) A (call (.builtin "max") [.ref l]) Q E s := by
  refine call_max_walk (iter_intTup hl fun s₂ e st hfp hlI => ?_)
  subst e
  refine ⟨_, _, _, _, _, _, _, rfl, Walks.tuple (A := A.in1) hh _ l hlI (intItems xs), st, hfp, by simpa [intItems] using hne, CmpOf.ints_gt (numAt xs) (fun _ _ => intItems_at), fun v h' tk hP hk => ?_⟩
  exact h v h' tk (by simpa [intItems] using hP) (old_keptT hk)
theorem min_intTup {l : Addr} {xs : Array (Int × Tok)} {Q : Value → Shared → Prop} (hh : A.handled = none) (hl : s.heap.IsTuple l (intItems xs)) (hne : 0 < xs.size)
    (h : ∀ v h' tk, (intItems xs)[argBest (fun i j => decide (numAt xs i < numAt xs j)) (xs.size - 1)]? = some v → (∀ b o, s.heap.get? b = some o → h'.get? b = some o) → Q v { s with heap := h', toks := tk }) :
    wpAny (model prog w) A (call (.builtin "min") [.ref l]) Q E s := by
  refine call_min_walk (iter_intTup hl fun s₂ e st hfp hlI => ?_)
  subst e
  refine ⟨_, _, _, _, _, _, _, rfl, Walks.tuple (A := A.in1) hh _ l hlI (intItems xs), st, hfp, by simpa [intItems] using hne, CmpOf.ints_lt (numAt xs) (fun _ _ => intItems_at), fun v h' tk hP hk => ?_⟩
  exact h v h' tk (by simpa [intItems] using hP) (old_keptT hk)
theorem max_rawT {l : Addr} {its : List Value} {ns : List Int} {Q : Value → Shared → Prop} (hh : A.handled = none) (hl : s.heap.IsTuple l its.toArray) (hi : IntsAre its ns) (hne : 0 < ns.length)
    (h : ∀ h' tk M t', (∀ b o, s.heap.get? b = some o → h'.get? b = some o) → M ∈ ns → (∀ a, a ∈ ns → a ≤ M) → Q (.int M t') { s with heap := h', toks := tk }) : wpAny (model prog w) A (call (.builtin "max") [.ref l]) Q E s := by
  obtain ⟨xs, e⟩ := hi.allInts.items
  have hn : numsOf (intItems xs).toList = ns := by rw [← e]; exact hi.numsOf
  rw [nums_intItems] at hn
  subst hn
  rw [e] at hl
  have hsz : 0 < xs.size := by simpa using hne
  refine max_intTup hh hl hsz fun v h' tk hv hk => ?_
  obtain ⟨t, rfl⟩ := intItems_at hv
  obtain ⟨h1, h2⟩ := argBest_gt (numAt xs) (xs.size - 1)
  refine h h' tk _ t hk ?_ fun a ha => ?_
  · rw [numAt_eq]; exact PySem.getD_mem (by rw [List.length_map, Array.length_toList]; omega)
  · obtain ⟨j, hj, rfl⟩ := mem_getD ha
    rw [List.length_map, Array.length_toList] at hj
    rw [← numAt_eq]; exact h2 j (by omega)
theorem min_rawT {l : Addr} {its : List Value} {ns : List Int} {Q : Value → Shared → Prop} (hh : A.handled = none) (hl : s.heap.IsTuple l its.toArray) (hi : IntsAre its ns) (hne : 0 < ns.length)
    (h : ∀ h' tk M t', (∀ b o, s.heap.get? b = some o → h'.get? b = some o) → M ∈ ns → (∀ a, a ∈ ns → M ≤ a) → Q (.int M t') { s with heap := h', toks := tk }) : wpAny (model prog w) A (call (.builtin "min") [.ref l]) Q E s := by
  obtain ⟨xs, e⟩ := hi.allInts.items
  have hn : numsOf (intItems xs).toList = ns := by rw [← e]; exact hi.numsOf
  rw [nums_intItems] at hn
  subst hn
  rw [e] at hl
  have hsz : 0 < xs.size := by simpa using hne
  refine min_intTup hh hl hsz fun v h' tk hv hk => ?_
  obtain ⟨t, rfl⟩ := intItems_at hv
  obtain ⟨h1, h2⟩ := argBest_lt (numAt xs) (xs.size - 1)
  refine h h' tk _ t hk ?_ fun a ha => ?_
  · rw [numAt_eq]; exact PySem.getD_mem (by rw [List.length_map, Array.length_toList]; omega)
  · obtain ⟨j, hj, rfl⟩ := mem_getD ha
    rw [List.length_map, Array.length_toList] at hj
    rw [← numAt_eq]; exact h2 j (by omega)
end
section
variable {X : Cx}
def rSortedIT (K : PySem.W.Frag) : List V → Hp → VK → Prop := fun vs H Q => ∃ (a : Addr) (ns : List Int), vs = [V.ref a] ∧ SqT K H a (ns.map V.int) ∧
  ∀ (ns' : List Int) (p : Addr), ns'.Perm ns → ns'.Pairwise (· ≤ ·) → H p = none → Q (.ref p) (upd H p (.lst (ns'.map V.int)))
def rMaxT (K : PySem.W.Frag) : List V → Hp → VK → Prop := fun vs H Q => ∃ (a : Addr) (ns : List Int), vs = [V.ref a] ∧ SqT K H a (ns.map V.int) ∧ 0 < ns.length ∧ ∀ m, m ∈ ns → (∀ y, y ∈ ns → y ≤ m) → Q (.int m) H
def rMinT (K : PySem.W.Frag) : List V → Hp → VK → Prop := fun vs H Q => ∃ (a : Addr) (ns : List Int), vs = [V.ref a] ∧ SqT K H a (ns.map V.int) ∧ 0 < ns.length ∧ ∀ m, m ∈ ns → (∀ y, y ∈ ns → m ≤ y) → Q (.int m) H
theorem cr_sortedIT : CallR X (.builtin "sorted") (rSortedIT X.K) := by
  intro pins s σ H vs us Q I r h
  obtain ⟨a, ns, rfl, hs, q⟩ := h
  obtain ⟨its, rv, hl, hz⟩ := I.tuple hs
  rw [Vals.ref1 r]
  have hi := rv.ints
  refine sorted_ordT SrtO.swo_int hl (by rw [← rv.length]; exact hz) (fun h2 h₁ a' _ _ => SrtO.ints_sortable hi h2) fun out h1 h2 => ?_
  obtain ⟨k1, k2, k3⟩ := SrtO.ints_out hi h1 h2
  obtain ⟨ep, he'⟩ := PyProof.Rows.sortedAll_at s.heap its out.toArray
  have hlen : ((out.map SrtO.iv).map V.int).length ≤ sizeLine := by
    rw [List.length_map, k2.length_eq]
    rw [List.length_map] at hz
    exact hz
  exact ⟨.ref _, upd H (s.heap.objs.size + 1) (.lst ((out.map SrtO.iv).map V.int)), I.laid (t' := s.toks) (fun _ _ => PyProof.Rows.sortedAll_old) (Nat.le_succ _) ⟨hlen, out, ep, vals_of_ints k1, he'⟩, rfl, q _ _ k2 k3 (I.hok.fresh (Nat.le_succ _))⟩
theorem cr_maxT (hc : X.calm = true) : CallR X (.builtin "max") (rMaxT X.K) := by
  intro pins s σ H vs us Q I r h
  obtain ⟨a, ns, rfl, hs, hne, q⟩ := h
  obtain ⟨its, rv, hl, _⟩ := I.tuple hs
  rw [Vals.ref1 r]
  exact max_rawT (I.ok.hd hc) hl rv.ints hne fun h' tk m t' hk h1 h2 => ⟨.int _, H, I.kept hk, ⟨_, rfl⟩, q m h1 h2⟩
theorem cr_minT (hc : X.calm = true) : CallR X (.builtin "min") (rMinT X.K) := by
  intro pins s σ H vs us Q I r h
  obtain ⟨a, ns, rfl, hs, hne, q⟩ := h
  obtain ⟨its, rv, hl, _⟩ := I.tuple hs
  rw [Vals.ref1 r]
  exact min_rawT (I.ok.hd hc) hl rv.ints hne fun h' tk m t' hk h1 h2 => ⟨.int _, H, I.kept hk, ⟨_, rfl⟩, q m h1 h2⟩
end
end L2
namespace Mi
theorem foldmin (xs : List Int) : ∀ a : Int, (xs.foldl min a = a ∨ xs.foldl min a ∈ xs) ∧ xs.foldl min a ≤ a ∧ ∀ y ∈ xs, xs.foldl min a ≤ y := by
  induction xs with
  | nil => intro a; exact ⟨.inl rfl, Int.le_refl _, fun y h => nomatch h⟩
  | cons x xs ih =>
    intro a
    obtain ⟨h1, h2, h3⟩ := ih (min a x)
    show (xs.foldl min (min a x) = a ∨ _) ∧ xs.foldl min (min a x) ≤ a ∧ _
    refine ⟨?_, by omega, fun y hy => ?_⟩
    · rcases h1 with h1 | h1
      · by_cases hax : a ≤ x
        · exact .inl (by rw [h1]; omega)
        · refine .inr (List.mem_cons.mpr (.inl ?_)); show xs.foldl min (min a x) = x; rw [h1]; omega
      · exact .inr (List.mem_cons_of_mem _ h1)
    · show xs.foldl min (min a x) ≤ y
      rcases List.mem_cons.mp hy with rfl | hy
      · omega
      · exact h3 y hy
theorem foldmax (xs : List Int) : ∀ a : Int, (xs.foldl max a = a ∨ xs.foldl max a ∈ xs) ∧ a ≤ xs.foldl max a ∧ ∀ y ∈ xs, y ≤ xs.foldl max a := by
  induction xs with
  | nil => intro a; exact ⟨.inl rfl, Int.le_refl _, fun y h => nomatch h⟩
  | cons x xs ih =>
    intro a
    obtain ⟨h1, h2, h3⟩ := ih (max a x)
    show (xs.foldl max (max a x) = a ∨ _) ∧ a ≤ xs.foldl max (max a x) ∧ _
    refine ⟨?_, by omega, fun y hy => ?_⟩
    · rcases h1 with h1 | h1
      · by_cases hax : x ≤ a
        · exact .inl (by rw [h1]; omega)
        · refine .inr (List.mem_cons.mpr (.inl ?_)); show xs.foldl max (max a x) = x; rw [h1]; omega
      · exact .inr (List.mem_cons_of_mem _ h1)
    · show y ≤ xs.foldl max (max a x)
      rcases List.mem_cons.mp hy with rfl | hy
      · omega
      · exact h3 y hy
theorem lMin_spec {xs : List Int} {m : Int} (h : lMin xs = some m) : 0 < xs.length ∧ m ∈ xs ∧ ∀ y ∈ xs, m ≤ y := by
  cases xs with
  | nil => cases h
  | cons x xs =>
    obtain rfl : (x :: xs).foldl min x = m := Option.some.inj h
    obtain ⟨h1, h2, h3⟩ := foldmin (x :: xs) x
    refine ⟨Nat.succ_pos _, ?_, h3⟩
    rcases h1 with h1 | h1
    · rw [h1]; exact List.mem_cons_self ..
    · exact h1
theorem lMax_spec {xs : List Int} {m : Int} (h : lMax xs = some m) : 0 < xs.length ∧ m ∈ xs ∧ ∀ y ∈ xs, y ≤ m := by
  cases xs with
  | nil => cases h
  | cons x xs =>
    obtain rfl : (x :: xs).foldl max x = m := Option.some.inj h
    obtain ⟨h1, h2, h3⟩ := foldmax (x :: xs) x
    refine ⟨Nat.succ_pos _, ?_, h3⟩
    rcases h1 with h1 | h1
    · rw [h1]; exact List.mem_cons_self ..
    · exact h1
end Mi
namespace G
open PySem PySem.Spec PyProof.Rows L2
section
variable {X : Cx} {K : PySem.W.Frag} {σ σ' : L2.St} {H : Hp} {F : List Addr} {v : V} {Q : VK} {m : Int}
theorem cl_sortedT {K : PySem.W.Frag} (e : X.K = K := by rfl) : CallR X (.builtin "sorted") (rSortedIT K) := by subst e; exact cr_sortedIT
theorem w_sortedT {xs : List Int} (r : (yTupL yInt).rep K H F v xs) (k : ∀ p H', H p = none → Chg [] H H' → (yLst yInt).rep K H' [p] (.ref p) (Mi.sortI xs) → Q (.ref p) H') : rSortedIT K [v] H Q := by
  obtain ⟨p, rfl, s⟩ := ints_sqT r
  refine ⟨p, xs, rfl, s, fun ns q pm so nq => ?_⟩
  rw [sorted_unique (pm.trans (sortI_perm xs).symm) so (sortI_sorted xs)]
  exact k q _ nq (Chg.new nq) ⟨q, _, rfl, rfl, upd_same, ints_mk _⟩
theorem cl_maxT {K : PySem.W.Frag} (hc : X.calm = true) (e : X.K = K := by rfl) : CallR X (.builtin "max") (rMaxT K) := by subst e; exact cr_maxT hc
theorem cl_minT {K : PySem.W.Frag} (hc : X.calm = true) (e : X.K = K := by rfl) : CallR X (.builtin "min") (rMinT K) := by subst e; exact cr_minT hc
theorem cl_maxL {K : PySem.W.Frag} (hc : X.calm = true) (e : X.K = K := by rfl) : CallR X (.builtin "max") (rMax K) := by subst e; exact cr_max hc
theorem cl_minL {K : PySem.W.Frag} (hc : X.calm = true) (e : X.K = K := by rfl) : CallR X (.builtin "min") (rMin K) := by subst e; exact cr_min hc
theorem cl_sumL {K : PySem.W.Frag} (hc : X.calm = true) (e : X.K = K := by rfl) : CallR X (.builtin "sum") (rSum K) := by subst e; exact cr_sum hc
theorem w_maxT {xs : List Int} (r : (yTupL yInt).rep K H F v xs) (h : Mi.lMax xs = some m) (k : Q (.int m) H) : rMaxT K [v] H Q := by
  obtain ⟨p, rfl, s⟩ := ints_sqT r
  obtain ⟨h1, h2, h3⟩ := Mi.lMax_spec h
  exact ⟨p, xs, rfl, s, h1, fun z hz ha => by rw [show z = m from Int.le_antisymm (h3 z hz) (ha m h2)]; exact k⟩
theorem w_minT {xs : List Int} (r : (yTupL yInt).rep K H F v xs) (h : Mi.lMin xs = some m) (k : Q (.int m) H) : rMinT K [v] H Q := by
  obtain ⟨p, rfl, s⟩ := ints_sqT r
  obtain ⟨h1, h2, h3⟩ := Mi.lMin_spec h
  exact ⟨p, xs, rfl, s, h1, fun z hz ha => by rw [show z = m from Int.le_antisymm (ha m h2) (h3 z hz)]; exact k⟩
theorem w_maxL {xs : List Int} (r : (yLst yInt).rep K H F v xs) (h : Mi.lMax xs = some m) (k : Q (.int m) H) : rMax K [v] H Q := by
  obtain ⟨p, rfl, s⟩ := ints_sqL r
  obtain ⟨h1, h2, h3⟩ := Mi.lMax_spec h
  exact ⟨p, xs, rfl, s, h1, fun z hz ha => by rw [show z = m from Int.le_antisymm (h3 z hz) (ha m h2)]; exact k⟩
theorem w_minL {xs : List Int} (r : (yLst yInt).rep K H F v xs) (h : Mi.lMin xs = some m) (k : Q (.int m) H) : rMin K [v] H Q := by
  obtain ⟨p, rfl, s⟩ := ints_sqL r
  obtain ⟨h1, h2, h3⟩ := Mi.lMin_spec h
  exact ⟨p, xs, rfl, s, h1, fun z hz ha => by rw [show z = m from Int.le_antisymm (ha m h2) (h3 z hz)]; exact k⟩
theorem w_sumL {xs : List Int} (r : (yLst yInt).rep K H F v xs) (k : Q (.int xs.sum) H) : rSum K [v] H Q := by
  obtain ⟨p, rfl, s⟩ := ints_sqL r
  exact ⟨p, xs, rfl, s, k⟩
end
/-! ### defaults that are tuples -/
def kwdAt (f : Str × Option Str) (x : Str) (K : PySem.W.Frag) : Addr := match K.lookup (He.fAd K f) with
  | some ⟨_, _, .func fd, _⟩ => (match fd.kwdefaults with
    | .ref D => (match PySem.W.nsIn K D x with
      | some (some (.ref a)) => a
      | _ => 0)
    | _ => 0)
  | _ => 0
def tupAt (K : PySem.W.Frag) (a : Addr) (vs : List He.Dv) : Bool := match K.lookup a with
  | some ⟨.type c, _, .seq its _, _⟩ => decide (c = "tuple") && (decide (its.size ≤ sizeLine) && He.relAll (vs.map (He.Dv.v K)) its.toList)
  | _ => false
theorem tupAt_ok {K : PySem.W.Frag} {a : Addr} {vs : List He.Dv} (h : tupAt K a vs = true) (H : Hp) : SqT K H a (vs.map (He.Dv.v K)) := by
  unfold tupAt at h
  cases q : K.lookup a with
  | none =>
    rw [q] at h
    cases h
  | some o =>
    obtain ⟨oc, od, dt, osl⟩ := o
    rw [q] at h
    cases oc with
    | type c =>
      cases dt with
      | seq its n =>
        obtain ⟨h1, h2⟩ := He.ba (show (decide (c = "tuple") && (decide (its.size ≤ sizeLine) && He.relAll (vs.map (He.Dv.v K)) its.toList)) = true from h)
        obtain ⟨h3, h4⟩ := He.ba h2
        exact .inr ⟨_, its, n, q, congrArg Value.type (of_decide_eq_true h1), rfl, of_decide_eq_true h3, He.relAll_ok h4⟩
      | _ => cases h
    | _ => cases dt <;> cases h
theorem tupAt_ints {K : PySem.W.Frag} {a : Addr} {ns : List Int} (h : tupAt K a (ns.map He.Dv.int) = true) (H : Hp) : (yTupL yInt).rep K H [] (.ref a) ns :=
  ⟨a, ns.map V.int, rfl, rfl, by have := tupAt_ok h H; rw [List.map_map] at this; exact this, ints_mk ns⟩
def permG (ix : List Nat) {α : Type} (us mv ws : List α) : List α := ix.filterMap fun i => (us ++ (mv ++ ws))[i]?
theorem vals_at {vs : List V} {us : List Value} (r : Vals vs us) (i : Nat) : (vs[i]? = none ∧ us[i]? = none) ∨ ∃ v u, vs[i]? = some v ∧ us[i]? = some u ∧ RelV v u := by
  induction r generalizing i with
  | nil => exact .inl ⟨rfl, rfl⟩
  | cons h t ih =>
    cases i with
    | zero => exact .inr ⟨_, _, rfl, rfl, h⟩
    | succ i => exact ih i
theorem vals_app {vs zs : List V} {us ws : List Value} (r : Vals vs us) (q : Vals zs ws) : Vals (vs ++ zs) (us ++ ws) := by
  induction r with
  | nil => exact q
  | cons h t ih => exact .cons h ih
theorem permG_rel (ix : List Nat) {vs mz zs : List V} {us mv ws : List Value} (r1 : Vals vs us) (r2 : Vals mz mv) (r3 : Vals zs ws) : Vals (permG ix vs mz zs) (permG ix us mv ws) := by
  have r := vals_app r1 (vals_app r2 r3)
  unfold permG
  induction ix with
  | nil => exact .nil
  | cons i ix ih =>
    rcases vals_at r i with ⟨e1, e2⟩ | ⟨v, u, e1, e2, h⟩
    · rw [List.filterMap_cons_none e1, List.filterMap_cons_none e2]; exact ih
    · rw [List.filterMap_cons_some e1, List.filterMap_cons_some e2]; exact .cons h ih
/-! ### the head's hook with a check of one's own -/
def obsEG (n : Nat) (fa : List He.Fa) (fn : List He.DefD) (ex : PySem.W.Frag → Bool) (g : Addr → Option Obj) : He.AlD × Bool := (He.obsD fa fn (He.frG g (He.asD g n)), ex (He.frG g (He.asD g n)))
def hookE (n : Nat) (fa : List He.Fa) (fn : List He.DefD) (ex : PySem.W.Frag → Bool) : PySem.W.Hook where
  α := He.AlD × Bool
  obs := fun s => obsEG n fa fn ex s.heap.get?
  val := fun _ => (He.valD fn, true)
  says := fun _ h => ∃ K : PySem.W.Frag, K.In h ∧ (He.SaysD fa fn K ∧ ex K = true)
  of := fun _ _ e => ⟨_, He.frG_in, congrArg Prod.fst e, congrArg Prod.snd e⟩
  keeps := fun _ _ _ ⟨K, hK, c⟩ k => ⟨K, PySem.W.Frag.In.keeps hK k, c⟩
theorem obsEG_eq {n : Nat} {fa : List He.Fa} {fn : List He.DefD} {ex : PySem.W.Frag → Bool} {g : Addr → Option Obj} {s : Shared} (h : ∀ a, g a = s.heap.get? a) : obsEG n fa fn ex g = (hookE n fa fn ex).obs s := by
  have e : g = s.heap.get? := funext h
  rw [e] <;> rfl
end G

namespace G
open PySem PySem.Spec PyProof.Rows L2
section
variable {X : Cx} {P : Program} {w : World} {K : PySem.W.Frag} {σ σ' : L2.St} {H : Hp} {F F1 F2 Fu : List Addr} {ta tb te to : TE} {v u x y : V} {i j : Int} {Q : VK} {α : Type} {τ : Ty α} {n : Nat}
/-! ### x in a list of data -/
theorem units1 {k : Nat} {A : Around} (r : Room k A) : A.units + 65 < cLine := by have := r.un; omega
theorem op_in_d {K : PySem.W.Frag} (hu : X.A.units + 65 < cLine) (e : X.K = K := by rfl) : OpR X (compareOp .In) (rInD K) := by subst e; exact op_inD hu
theorem op_ni_d {K : PySem.W.Frag} (hu : X.A.units + 65 < cLine) (e : X.K = K := by rfl) : OpR X (compareOp .NotIn) (rNotInD K) := by subst e; exact op_notInD hu
theorem any_eqv [BEq α] [LawfulBEq α] (d : Dat τ n) (xs : List α) (x : α) : ((xs.map d.f).any fun z => PyData.eqv z (d.f x)) = xs.contains x := by
  letI := d.dec
  induction xs with
  | nil => rfl
  | cons y ys ih =>
    rw [List.map_cons, List.any_cons, ih, d.eqv, List.contains_cons]
    congr 1
    by_cases e : y = x
    · subst e; simp
    · rw [decide_eq_false e, beq_eq_false_iff_ne.mpr (Ne.symm e)]
theorem w_inD [BEq α] [LawfulBEq α] {xs : List α} {d : α} (D : Dat τ n) (r : (yLst τ).rep K H F v xs) (q : τ.rep K H F2 u d) (k : Q (.bl (xs.contains d)) H) (hn : n + 1 ≤ 64 := by decide) : rInD K u v H Q :=
  ⟨_, _, D.dp q, (dat_lst D).dp r, D.shaped (by omega) d, (dat_lst D).shaped hn xs, by rw [any_eqv]; exact k⟩
theorem w_niD [BEq α] [LawfulBEq α] {xs : List α} {d : α} (D : Dat τ n) (r : (yLst τ).rep K H F v xs) (q : τ.rep K H F2 u d) (k : Q (.bl (!xs.contains d)) H) (hn : n + 1 ≤ 64 := by decide) : rNotInD K u v H Q :=
  ⟨_, _, D.dp q, (dat_lst D).dp r, D.shaped (by omega) d, (dat_lst D).shaped hn xs, by rw [any_eqv]; exact k⟩
theorem w_inDG [BEq α] [LawfulBEq α] {xs : List α} {d : α} (D : Dat τ n) (r : (yLsg τ).rep K H F v xs) (q : τ.rep K H F2 u d) (k : Q (.bl (xs.contains d)) H) (hn : n + 1 ≤ 64 := by decide) : rInD K u v H Q :=
  ⟨_, _, D.dp q, (dat_lsg D).dp r, D.shaped (by omega) d, (dat_lsg D).shaped hn xs, by rw [any_eqv]; exact k⟩
theorem w_niDG [BEq α] [LawfulBEq α] {xs : List α} {d : α} (D : Dat τ n) (r : (yLsg τ).rep K H F v xs) (q : τ.rep K H F2 u d) (k : Q (.bl (!xs.contains d)) H) (hn : n + 1 ≤ 64 := by decide) : rNotInD K u v H Q :=
  ⟨_, _, D.dp q, (dat_lsg D).dp r, D.shaped (by omega) d, (dat_lsg D).shaped hn xs, by rw [any_eqv]; exact k⟩
/-! ### a pair as a tuple of ints -/
theorem pair_tupl {d : Int × Int} (r : yPair.rep K H F v d) : (yTupL yInt).rep K H [] v [d.1, d.2] := by
  obtain ⟨rfl, a, rfl, s⟩ := pair_sq r
  exact ⟨a, _, rfl, rfl, s, .cons ⟨rfl, rfl⟩ (.cons ⟨rfl, rfl⟩ .nil)⟩
/-! ### any, all -/
theorem bools_sqL {xs : List Bool} (r : (yLst yBool).rep K H F v xs) : ∃ a, v = .ref a ∧ SqL K H a (xs.map V.bl) := by
  obtain ⟨a, vs, rfl, s, q⟩ := lst_sq r
  have e : vs = xs.map V.bl := by
    clear s r
    induction q with
    | nil => rfl
    | cons h t ih => obtain ⟨_, rfl⟩ := h; rw [ih]; rfl
  subst e
  exact ⟨a, rfl, s⟩
theorem cl_anyL {K : PySem.W.Frag} (hc : X.calm = true) (e : X.K = K := by rfl) : CallR X (.builtin "any") (rAny K) := by subst e; exact cr_any hc
theorem cl_allL {K : PySem.W.Frag} (hc : X.calm = true) (e : X.K = K := by rfl) : CallR X (.builtin "all") (rAll K) := by subst e; exact cr_all hc
theorem w_anyL {xs : List Bool} (r : (yLst yBool).rep K H F v xs) (k : Q (.bl (xs.any id)) H) : rAny K [v] H Q := by
  obtain ⟨a, rfl, s⟩ := bools_sqL r
  exact ⟨a, xs, rfl, s, k⟩
theorem w_allL {xs : List Bool} (r : (yLst yBool).rep K H F v xs) (k : Q (.bl (xs.all id)) H) : rAll K [v] H Q := by
  obtain ⟨a, rfl, s⟩ := bools_sqL r
  exact ⟨a, xs, rfl, s, k⟩
/-! ### list * int -/
theorem pr_rep {R : V → α → Prop} {vs : List V} {xs : List α} (q : Paired R vs xs) : ∀ k : Nat, Paired R (List.replicate k vs).flatten (List.replicate k xs).flatten
  | 0 => .nil
  | k + 1 => by
    rw [List.replicate_succ, List.replicate_succ, List.flatten_cons, List.flatten_cons]
    exact pr_app q (pr_rep q k)
theorem w_rep {xs zs : List α} (r : (yLst τ).rep K H F v xs) (hm : Mi.repL xs i = some zs) (k : ∀ p H', H p = none → Chg [] H H' → (yLst τ).rep K H' [p] (.ref p) zs → Q (.ref p) H') : rRep v (.int i) H Q := by
  obtain ⟨a, vs, rfl, rfl, g, q⟩ := r
  unfold Mi.repL at hm
  split at hm
  · rename_i hc
    obtain rfl := Option.some.inj hm
    refine ⟨a, i, vs, rfl, rfl, g, by omega, by omega, ?_, fun p np => k p _ np (Chg.new np) ⟨p, _, rfl, rfl, upd_same, ?_⟩⟩
    · rw [Paired.length q]
      exact Nat.le_trans hc.2.2 (by rw [sizeLine_eq]; decide)
    · exact pr_rep (Paired.mapP q fun _ _ z => Ty.ex z (Chg.new np)) i.toNat
  · cases hm
/-! ### list(range(..)) -/
def LrG1 (x : V) (H : Hp) (Q : VK) : Prop := ∃ n, x = .int n ∧ (RgOk 0 n ∧ ∀ q, H q = none → Q (.ref q) (upd H q (.lst (rgV 0 n))))
def LrG2 (x y : V) (H : Hp) (Q : VK) : Prop := ∃ i j, x = .int i ∧ y = .int j ∧ (RgOk i j ∧ ∀ q, H q = none → Q (.ref q) (upd H q (.lst (rgV i j))))
theorem w_lrng1 (h : ta σ H fun x H1 => LrG1 x H1 Q) : tLstRg (tRg1 ta) σ H Q := h
theorem w_lrng2 (h : ta σ H fun x H1 => tb σ H1 fun y H2 => LrG2 x y H2 Q) : tLstRg (tRg2 ta tb) σ H Q := h
theorem rg_ints (a b : Int) : Paired (fun u x => yInt.rep K H [] u x) (rgV a b) (Mi.rng a b) := by
  unfold rgV Mi.rng
  induction List.range (b - a).toNat with
  | nil => exact .nil
  | cons k ks ih => exact .cons ⟨rfl, rfl⟩ ih
theorem rgL_ok {lo hi : Int} {xs : List Int} (hm : Mi.rngL lo hi = some xs) : RgOk lo hi ∧ xs = Mi.rng lo hi := by
  unfold Mi.rngL at hm
  split at hm
  · exact ⟨⟨by omega, by omega, by omega, by omega, by omega⟩, (Option.some.inj hm).symm⟩
  · cases hm
theorem x_lrng {lo hi : Int} {xs : List Int} (hm : Mi.rngL lo hi = some xs) (k : ∀ p H', H p = none → Chg [] H H' → (yLst yInt).rep K H' [p] (.ref p) xs → Q (.ref p) H') : RgOk lo hi ∧ ∀ q, H q = none → Q (.ref q) (upd H q (.lst (rgV lo hi))) := by
  obtain ⟨h1, rfl⟩ := rgL_ok hm
  exact ⟨h1, fun q nq => k q _ nq (Chg.new nq) ⟨q, _, rfl, rfl, upd_same, rg_ints lo hi⟩⟩
theorem x_lrng1 {hi : Int} {xs : List Int} (hm : Mi.rngL 0 hi = some xs) (k : ∀ p H', H p = none → Chg [] H H' → (yLst yInt).rep K H' [p] (.ref p) xs → Q (.ref p) H') : LrG1 (.int hi) H Q := ⟨hi, rfl, x_lrng hm k⟩
theorem x_lrng2 {lo hi : Int} {xs : List Int} (hm : Mi.rngL lo hi = some xs) (k : ∀ p H', H p = none → Chg [] H H' → (yLst yInt).rep K H' [p] (.ref p) xs → Q (.ref p) H') : LrG2 (.int lo) (.int hi) H Q := ⟨lo, hi, rfl, rfl, x_lrng hm k⟩
theorem opt_n : (yOpt τ).rep K H [] .non (none : Option α) := ⟨rfl, rfl⟩
theorem opt_i {d : α} (nn : v ≠ .non) (r : τ.rep K H F v d) : (yOpt τ).rep K H F v (some d) := ⟨nn, r⟩
theorem Ty.freshOr {G Fp : List Addr} {d : α} (r : τ.rep K H F v d) (np : ∀ a ∈ G, H a = none ∨ a ∈ Fp) (dj : Dj F Fp) : Dj F G := fun a h z => by
  rcases np a z with e | e
  · obtain ⟨o, e2, _⟩ := τ.dom r a h
    rw [e] at e2; cases e2
  · exact dj a h e
/-! ### defs with defaults -/
theorem w_callN {n m : Nat} {sp : Sp} {gV : List V → List V → List V} {E : XK} {t tk : TA} (h : t σ H fun vs H1 => tk σ H1 fun zs H2 => vs.length = n ∧ zs.length = m ∧ sp (gV vs zs) H2 Q E) : tCallN n m sp gV E t tk σ H Q := h
end
theorem okD {P : Program} {w : World} {K : PySem.W.Frag} {mg : Str → Option Value} {base : Heap} {x qual : Str} {params : Arguments} {body : List Stmt} {scope : Scope} {dvs : List V} {kws : List (Str × V)} {f : Addr} {fd : FuncData} {N ps : List Str} {k : Nat} {sp : Sp} (F : FunD K x qual params body scope dvs kws f fd) (S : FnScope N ps scope) (len : ∀ vs H Q E, sp vs H Q E → vs.length = ps.length)
    (hbody : ∀ (cdv : Value) (A : Around) (outer : List Env) (s : Shared) (H : Hp) (vs : List V) (Q : VK) (E : XK), Room k (A.deeper (envOfC qual scope s.heap.objs.size f cdv)) → sp vs H Q E →
      ∃ t, PSs (cxOf CX0 P w K mg base N qual scope f cdv A outer s H E).nox body t ∧ t { nx := fun _ H' => Q .non H', rt := Q } (start N vs) H) : FnOk P w K mg base CX0 (k + 1) f fd ps sp :=
  F.ok S len fun cdv A outer s H vs Q E hr hsp => by
    obtain ⟨t, h, q⟩ := hbody cdv A outer s H vs Q E hr hsp
    exact ⟨t, h.nox, q⟩
structure DfnD (K : PySem.W.Frag) (mg : Str → Option Value) (x : Str) (st : Stmt) (dvs : List V) : Prop where
  ex : ∃ f fd, FunD K x x (defArgs st) (defBody st) (defScope st) dvs [] f fd ∧ mg x = some (.ref f)
structure CalD (P : Program) (w : World) (K : PySem.W.Frag) (mg : Str → Option Value) (x : Str) (st : Stmt) (dvs : List V) (ps : List Str) (k : Nat) (sp : Sp) : Prop where
  ex : ∃ f fd, mg x = some (.ref f) ∧ FunD K x x (defArgs st) (defBody st) (defScope st) dvs [] f fd ∧ ∀ base : Heap, FnOk P w K mg base CX0 k f fd ps sp
end G

namespace G
open PySem PySem.Spec PyProof.Rows L2
section
variable {X : Cx} {P : Program} {w : World} {K : PySem.W.Frag} {σ σ' : L2.St} {H : Hp} {F F1 F2 Fu : List Addr} {ta tb te to : TE} {tA : TT} {v u x y : V} {i j : Int} {Q : VK} {α β : Type} {τ : Ty α} {υ : Ty β} {n : Nat} {g : TG} {tt : TT} {ws : List Nat}
theorem j_if (R : V → Hp → Prop) (h : ∀ Q' : VK, (∀ x H', R x H' → Q' x H') → te σ H Q') (k : ∀ x H', R x H' → Q x H') : te σ H Q := h Q k
theorem w_ife (h : tA σ H fun c H1 => if c = true then ta σ H1 Q else tb σ H1 Q) : tIf tA ta tb σ H Q := h
theorem or_app {F G : List Addr} {p : Addr → Prop} (h1 : ∀ a ∈ F, p a) (h2 : ∀ a ∈ G, p a) : ∀ a ∈ F ++ G, p a := fun a h => by
  rcases List.mem_append.mp h with h | h
  · exact h1 a h
  · exact h2 a h
/-! ### sorted(a set of ints) -/
theorem cl_sortedSet {w : World} (hc : X.calm = true) (e : X.w = w := by rfl) : CallR X (.builtin "sorted") (rSortedSet w) := by subst e; exact cr_sortedSet hc
theorem asc_unique : ∀ {xs ys : List Int}, xs.Pairwise (· < ·) → ys.Pairwise (· ≤ ·) → ys.Nodup → (∀ a, a ∈ xs ↔ a ∈ ys) → xs = ys
  | [], [], _, _, _, _ => rfl
  | [], y :: ys, _, _, _, h => absurd ((h y).mpr (List.mem_cons_self ..)) List.not_mem_nil
  | x :: xs, [], _, _, _, h => absurd ((h x).mp (List.mem_cons_self ..)) List.not_mem_nil
  | x :: xs, y :: ys, h1, h2, h3, h => by
    have p1 := List.pairwise_cons.mp h1
    have p2 := List.pairwise_cons.mp h2
    have p3 := List.nodup_cons.mp h3
    have e : x = y := by
      rcases List.mem_cons.mp ((h x).mp (List.mem_cons_self ..)) with e | e
      · exact e
      · rcases List.mem_cons.mp ((h y).mpr (List.mem_cons_self ..)) with e2 | e2
        · exact e2.symm
        · have := p1.1 y e2
          have := p2.1 x e
          omega
    subst e
    rw [asc_unique p1.2 p2.2 p3.2 fun a => ?_]
    constructor
    · intro ha
      rcases List.mem_cons.mp ((h a).mp (List.mem_cons_of_mem _ ha)) with e | e
      · subst e; have := p1.1 a ha; omega
      · exact e
    · intro ha
      rcases List.mem_cons.mp ((h a).mpr (List.mem_cons_of_mem _ ha)) with e | e
      · subst e; exact absurd ha p3.1
      · exact e
/-- fewer than 64 members, none twice -/
theorem w_sortedS {w : World} {xs : List Int} {z : Unit} (r : (ySet w).rep K H F v xs) (hz : Mi.guardO (decide (xs.length < 64) && decide xs.Nodup) = some z) (k : ∀ p H', H p = none → Chg [] H H' → (yLst yInt).rep K H' [p] (.ref p) (Mi.sortI xs) → Q (.ref p) H') : rSortedSet w [v] H Q := by
  obtain ⟨a, rfl, rfl, g⟩ := r
  unfold Mi.guardO at hz
  split at hz
  · rename_i hc
    rw [Bool.and_eq_true, decide_eq_true_eq, decide_eq_true_eq] at hc
    refine ⟨a, _, _, rfl, g, hc.1, fun ns p hp hm hl np => ?_⟩
    have e : ns = Mi.sortI xs := asc_unique hp (sortI_sorted xs) ((sortI_perm xs).nodup_iff.mpr hc.2) fun b => by
      rw [hm, (sortI_perm xs).mem_iff, List.contains_iff_mem]
    subst e
    exact k p _ np (Chg.new np) ⟨p, _, rfl, rfl, upd_same, ints_mk _⟩
  · cases hz
/-! ### a comprehension over enumerate -/
theorem kc_enum {xs : List β} (r : (yLst υ).rep K H F v xs) (Pv : Addr → Nat → Hp → Prop) (h0 : ∀ D H', H D = none → Chg [] H H' → (yLst τ).rep K H' [D] (.ref D) [] → Pv D 0 H') (hl : ∀ D i H', Pv D i H' → (yLst υ).rep K H' F v xs)
    (hs : ∀ D (i : Nat) (x : Int × β) (u : V) H' H2, (Mi.enumF 0 xs)[i]? = some x → Chg [] H' H2 → (yTup (sCons yInt (sOne υ))).rep K H2 [] u x → Pv D i H' → TurnG g tt te ws σ D (Pv D (i + 1)) u H2) (hd : ∀ D H', H D = none → Pv D (Mi.enumF 0 xs).length H' → Q (.ref D) H') :
    ∃ a xs, [v] = [.ref a] ∧ SqL K H a xs ∧ CompG (Ite K a) g tt te ws σ H Q := by
  obtain ⟨a, vs, e, s, q⟩ := lst_sq r
  refine ⟨a, vs, by rw [e], s, comp_by (K := K) (τ := τ) xs.length Pv h0 (fun D i H' hi p => ?_) (fun D H' hD p => ?_)⟩
  · obtain ⟨a', vs', e', s', q'⟩ := lst_sq (hl D i H' p)
    obtain rfl : a = a' := by rw [e] at e'; exact V.ref.inj e'
    obtain ⟨u, hu, ru⟩ := pr_get q' (List.getElem?_eq_getElem hi)
    refine ⟨⟨vs', u, s', hu⟩, fun x H2 y => ?_⟩
    obtain ⟨T, w, rfl, nT, rfl, y⟩ := y
    obtain rfl : w = u := Option.some.inj ((y _ s').symm.trans hu)
    have hx := enumF_at 0 xs i (List.getElem?_eq_getElem hi)
    have e0 : (0 : Int) + (i : Int) = (i : Int) := Int.zero_add _
    rw [e0] at hx
    have c : Chg [] H' (upd H' T (.tup [.int (i : Nat), w])) := Chg.new nT
    exact hs D i _ _ _ _ hx c ⟨T, _, rfl, .inl (.inl upd_same), _, _, [], [], rfl, rfl, ⟨rfl, rfl⟩, _, rfl, Ty.ex ru c⟩ p
  · obtain ⟨a', vs', e', s', q'⟩ := lst_sq (hl D _ H' p)
    obtain rfl : a = a' := by rw [e] at e'; exact V.ref.inj e'
    exact ⟨⟨vs', s', by rw [pr_len q']; exact Nat.le_refl _⟩, hd D H' hD (by rw [enumF_len]; exact p)⟩
end
end G

namespace L2
open PySem PySem.Spec PyProof.Rows
section
variable {X : Cx} {e e3 : Expr} {te : TE} {t3 : TO} {pos p2 : Pos}
/-- xs[::k] of a list, k fixed: pv picks -/
def tSlK (K : PySem.W.Frag) (k : Int) (pv : List V → List V) (te : TE) (t3 : TO) : TE := fun σ H Q => te σ H fun x H1 => t3 σ H1 fun st H2 => st = some k ∧ ∃ a xs, x = .ref a ∧ SqL K H2 a xs ∧ ∀ p, H2 p = none → Q (.ref p) (upd H2 p (.lst (pv xs)))
theorem pe_sliceK {k : Int} {pv : List V → List V} {pick : List Value → List Value} (hk : k ≠ 0) (hp : ∀ its : List Value, slicePick its.toArray none none (some k) = (pick its).toArray) (hv : ∀ {xs : List V} {its : List Value}, Vals xs its → Vals (pv xs) (pick its)) (hl : ∀ xs : List V, (pv xs).length ≤ xs.length)
    (he : PE X e te) (h3 : PO X (some e3) t3) : PE X (.Subscript e (.Slice none none (some e3) p2) pos) (tSlK X.K k pv te t3) := by
  refine ⟨fun pins s σ H Q I h => ?_⟩
  refine Subscript_ (thn (he.run pins s σ H _ I h) fun v s1 ⟨x, H1, I1, r1, q1⟩ => ?_)
  refine wpAny_Slice ?_
  rw [evalPart_none]
  refine wpAny_pure (wpAny_pure ?_)
  refine thn (h3.run pins s1 σ H1 _ I1 q1) fun vst s3 ⟨st, H3, I3, pst, q3⟩ => ?_
  obtain ⟨rfl, a, xs, rfl, hx, q⟩ := q3
  have I4 : Inv X pins σ H3 { s3 with heap := s3.heap.push { cls := .type "slice", data := .fields #[.none, .none, vst] } } := I3.kept (t' := s3.toks) fun b ob q => Heap.get?_push_of_some _ q
  cases r1
  obtain ⟨its, r, ht, hz⟩ := I4.list hx
  have hlen := r.length
  have hs : Heap.IsSliceOf (s3.heap.push { cls := .type "slice", data := .fields #[.none, .none, vst] }) s3.heap.objs.size .none .none vst := Heap.IsSliceOf.new ..
  show wpAny (model X.prog X.w) X.A (subscriptTail e (.Slice none none (some e3) p2) (.ref a) (.ref s3.heap.objs.size)) (EP X pins σ Q) X.xe { s3 with heap := s3.heap.push { cls := .type "slice", data := .fields #[.none, .none, vst] } }
  refine tail_any (ops := [.ref a, .ref s3.heap.objs.size]) ht.isList.typeIs slot_list_getitem.lookup ?_ (by with_unfolding_all rfl)
  refine wpAny_getItem_list_slice (s := { s3 with heap := s3.heap.push { cls := .type "slice", data := .fields #[.none, .none, vst] } }) ht.isList hs .none .none pst (fun z => hk (Option.some.inj z)) ?_ (by rw [List.size_toArray] <;> omega)
  rw [hp]
  refine ⟨.ref _, _, I4.laid (t' := s3.toks) (o := .lst (pv xs)) (fun b ob q => Heap.get?_push_of_some _ q) (Nat.le_refl _) ?_, rfl, q _ (I4.hok.fresh (Nat.le_refl _))⟩
  exact ⟨Nat.le_trans (hl xs) hz, _, 0, hv r, Heap.get?_push_size _ rfl⟩
end
theorem pick_rev (its : List Value) : slicePick its.toArray none none (some (-1)) = its.reverse.toArray := PySem.W.krv_pick its.toArray
theorem evens_pick {α : Type} : ∀ (xs : List α) (a : Nat) (ys : List α), ys.drop a = xs → (List.range ((xs.length + 1) / 2)).filterMap (fun k => ys[a + 2 * k]?) = Mi.evens xs
  | [], a, ys, _ => by simp [Mi.evens]
  | [x], a, ys, h => by
    have h1 : ys[a]? = some x := by
      have z := congrArg (fun l => l[0]?) h
      simpa using z
    have e : ([x].length + 1) / 2 = 1 := by simp
    rw [e, show List.range 1 = [0] from rfl, List.filterMap_cons_some (b := x) (by simpa using h1)]; rfl
  | x :: y :: r, a, ys, h => by
    have h1 : ys[a]? = some x := by
      have z := congrArg (fun l => l[0]?) h
      simpa using z
    have hd : ys.drop (a + 2) = r := by rw [← List.drop_drop, h]; rfl
    have ih := evens_pick r (a + 2) ys hd
    have hl : (x :: y :: r).length = r.length + 2 := rfl
    rw [show ((x :: y :: r).length + 1) / 2 = (r.length + 1) / 2 + 1 by rw [hl]; omega, List.range_succ_eq_map, List.filterMap_cons_some (b := x) (by simpa using h1), List.filterMap_map]
    show x :: _ = x :: Mi.evens r
    rw [← ih]
    have ef : ((fun k => ys[a + 2 * k]?) ∘ Nat.succ) = fun k => ys[a + 2 + 2 * k]? := funext fun k => by
      show ys[a + 2 * (k + 1)]? = ys[a + 2 + 2 * k]?
      rw [show a + 2 * (k + 1) = a + 2 + 2 * k by omega]
    rw [ef]
theorem pick_even (its : List Value) : slicePick its.toArray none none (some 2) = (Mi.evens its).toArray := by
  have e : sliceBounds none none (some 2) its.toArray.size = (0, (its.length : Int), 2) := by
    rw [List.size_toArray]; rfl
  unfold slicePick
  rw [e]
  have e2 : sliceRange 0 (its.length : Int) 2 = (List.range ((its.length + 1) / 2)).map fun k => 0 + 2 * k := by
    unfold sliceRange
    simp only [show (2 : Int) > 0 by decide, if_true]
    by_cases h : (0 : Int) < its.length
    · rw [if_pos h, show (((its.length : Int) - 0 + 2 - 1) / 2).toNat = (its.length + 1) / 2 by omega]
      apply List.map_congr_left
      intro k _
      omega
    · rw [if_neg h, show (its.length + 1) / 2 = 0 by omega]; rfl
  simp only [e2, List.filterMap_map]
  congr 1
  have := evens_pick its 0 its rfl
  rw [← this]
  have ef : ((fun i => its.toArray[i]?) ∘ fun k => 0 + 2 * k) = fun k => its[0 + 2 * k]? := funext fun k => by
    show its.toArray[0 + 2 * k]? = its[0 + 2 * k]?
    rw [List.getElem?_toArray]
  rw [← ef]
theorem vals_evens {R : V → Value → Prop} : ∀ {xs : List V} {us : List Value}, Paired R xs us → Paired R (Mi.evens xs) (Mi.evens us)
  | _, _, .nil => .nil
  | _, _, .cons h .nil => .cons h .nil
  | _, _, .cons h (.cons _ t) => .cons h (vals_evens t)
theorem evens_len {α : Type} : ∀ xs : List α, (Mi.evens xs).length ≤ xs.length
  | [] => Nat.le_refl _
  | [_] => Nat.le_refl _
  | _ :: _ :: r => by
    have := evens_len r
    show (Mi.evens r).length + 1 ≤ r.length + 1 + 1
    omega
end L2
namespace G
open PySem PySem.Spec PyProof.Rows L2
section
variable {X : Cx} {P : Program} {w : World} {K : PySem.W.Frag} {σ σ' : L2.St} {H : Hp} {F F1 F2 Fu : List Addr} {ta tb te to : TE} {v u x y : V} {i j : Int} {Q : VK} {α β : Type} {τ : Ty α} {υ : Ty β}
def slRev (K : PySem.W.Frag) (te : TE) (t3 : TO) : TE := tSlK K (-1) List.reverse te t3
def slEven (K : PySem.W.Frag) (te : TE) (t3 : TO) : TE := tSlK K 2 Mi.evens te t3
theorem vals_rev {xs : List V} {us : List Value} (r : Vals xs us) : Vals xs.reverse us.reverse := r.reverse
theorem pe_slRev {K : PySem.W.Frag} {e e3 : Expr} {t3 : TO} {pos p2 : Pos} (he : PE X e te) (h3 : PO X (some e3) t3) (e0 : X.K = K := by rfl) : PE X (.Subscript e (.Slice none none (some e3) p2) pos) (slRev K te t3) := by
  subst e0
  exact pe_sliceK (pick := List.reverse) (by decide) pick_rev (fun r => vals_rev r) (fun xs => by rw [List.length_reverse]; exact Nat.le_refl _) he h3
theorem pe_slEven {K : PySem.W.Frag} {e e3 : Expr} {t3 : TO} {pos p2 : Pos} (he : PE X e te) (h3 : PO X (some e3) t3) (e0 : X.K = K := by rfl) : PE X (.Subscript e (.Slice none none (some e3) p2) pos) (slEven K te t3) := by
  subst e0
  exact pe_sliceK (pick := Mi.evens) (by decide) pick_even (fun r => vals_evens r) evens_len he h3
def SlkG (K : PySem.W.Frag) (k : Int) (pv : List V → List V) (x : V) (st : Option Int) (H : Hp) (Q : VK) : Prop := st = some k ∧ ∃ a xs, x = .ref a ∧ SqL K H a xs ∧ ∀ p, H p = none → Q (.ref p) (upd H p (.lst (pv xs)))
theorem w_slRev {t3 : TO} (h : te σ H fun x H1 => t3 σ H1 fun st H2 => SlkG K (-1) List.reverse x st H2 Q) : slRev K te t3 σ H Q := h
theorem w_slEven {t3 : TO} (h : te σ H fun x H1 => t3 σ H1 fun st H2 => SlkG K 2 Mi.evens x st H2 Q) : slEven K te t3 σ H Q := h
theorem pr_evens {R : V → α → Prop} : ∀ {vs : List V} {xs : List α}, Paired R vs xs → Paired R (Mi.evens vs) (Mi.evens xs)
  | _, _, .nil => .nil
  | _, _, .cons h .nil => .cons h .nil
  | _, _, .cons h (.cons _ t) => .cons h (pr_evens t)
theorem pr_reverse {R : V → α → Prop} {vs : List V} {xs : List α} (q : Paired R vs xs) : Paired R vs.reverse xs.reverse := by
  induction q with
  | nil => exact .nil
  | cons h t ih => rw [List.reverse_cons, List.reverse_cons]; exact pr_app ih (.cons h .nil)
theorem x_slRev {xs : List α} (r : (yLst τ).rep K H F v xs) (k : ∀ p H', H p = none → Chg [] H H' → (yLst τ).rep K H' [p] (.ref p) xs.reverse → Q (.ref p) H') : SlkG K (-1) List.reverse v (some (-1)) H Q := by
  obtain ⟨a, vs, rfl, s, q⟩ := lst_sq r
  exact ⟨rfl, a, vs, rfl, s, fun p np => k p _ np (Chg.new np) ⟨p, _, rfl, rfl, upd_same, pr_reverse (Paired.mapP q fun _ _ z => Ty.ex z (Chg.new np))⟩⟩
theorem x_slEven {xs : List α} (r : (yLst τ).rep K H F v xs) (k : ∀ p H', H p = none → Chg [] H H' → (yLst τ).rep K H' [p] (.ref p) (Mi.evens xs) → Q (.ref p) H') : SlkG K 2 Mi.evens v (some 2) H Q := by
  obtain ⟨a, vs, rfl, s, q⟩ := lst_sq r
  exact ⟨rfl, a, vs, rfl, s, fun p np => k p _ np (Chg.new np) ⟨p, _, rfl, rfl, upd_same, pr_evens (Paired.mapP q fun _ _ z => Ty.ex z (Chg.new np))⟩⟩
theorem opt_back {d : Option α} {z : α} (h : d = some z) (nn : v ≠ .non) (r : τ.rep K H F v z) : (yOpt τ).rep K H F v d := by subst h; exact ⟨nn, r⟩
/-! ### extend -/
theorem m_ext {xs ys zs : List α} (r : (yLst τ).rep K H F v xs) (q : (yLst τ).rep K H F2 u ys) (hm : Mi.ext xs ys = some zs) (k : ∀ H', Chg F H H' → (yLst τ).rep K H' F v zs → Q .non H') : rExtend v [u] H Q := by
  obtain ⟨a, vs, rfl, rfl, g, p⟩ := r
  obtain ⟨b, us, rfl, rfl, g2, p2⟩ := q
  unfold Mi.ext at hm
  split at hm
  · rename_i hc
    obtain rfl := Option.some.inj hm
    refine ⟨a, b, vs, us, rfl, rfl, g, g2, ?_, ?_⟩
    · rw [Paired.length p, Paired.length p2]; exact Nat.le_trans hc (by rw [sizeLine_eq]; decide)
    · have c : Chg [a] H (upd H a (.lst (vs ++ us))) := Chg.wr g (fun z => z)
      exact k _ c ⟨a, _, rfl, rfl, upd_same, pr_app (Paired.mapP p fun _ _ z => Ty.fz z c) (Paired.mapP p2 fun _ _ z => Ty.fz z c)⟩
  · cases hm
end
end G

namespace G
open PySem PySem.Spec PyProof.Rows L2
def topS (i : Nat) : Stmt := PySem.Challenge.pw_fogfleet_k09_fuel_along_a_driving.main.body.getD i (.Pass ⟨0, 0, 0, 0⟩)
structure Cs (K : PySem.W.Frag) (mg : Str → Option Value) : Prop where
  c_GREATEST_DEPTH : ∃ t, mg "GREATEST_DEPTH" = some (.int 99 t)
  c_GREATEST_TIDE : ∃ t, mg "GREATEST_TIDE" = some (.int 20 t)
  c_MOST_DRAUGHT : ∃ t, mg "MOST_DRAUGHT" = some (.int 99 t)
  c_MOST_PLACES : ∃ t, mg "MOST_PLACES" = some (.int 12 t)
  c_MOST_SPEED : ∃ t, mg "MOST_SPEED" = some (.int 3 t)
  c_MOST_TANK : ∃ t, mg "MOST_TANK" = some (.int 8 t)
  c_MOST_TIDE_NUMBERS : ∃ t, mg "MOST_TIDE_NUMBERS" = some (.int 12 t)
  d_Chart_tide : ∀ H, (yTupL yInt).rep K H [] (.ref (kwdAt ("Chart", some "__init__") "tide" K)) ([0] : List Int)
  d_Chart_harbours : ∀ H, (yTupL yInt).rep K H [] (.ref (kwdAt ("Chart", some "__init__") "harbours" K)) ([] : List Int)
abbrev nm_Chart : List Str := ["size", "depths", "lanes", "tide", "harbours", "joined"]
abbrev ty_Chart : Tys (Int × (List Int) × (List (Int × Int)) × (List Int) × (List Int) × (List (List Int))) := (sCons yInt (sCons (yTupL yInt) (sCons (yTupL (yTup (sCons yInt (sOne yInt)))) (sCons (yTupL yInt) (sCons (yTupL yInt) (sOne (yTupL (yTupL yInt))))))))
abbrev kw_Chart (K : PySem.W.Frag) : List (Str × V) := [("tide", .ref (kwdAt ("Chart", some "__init__") "tide" K)), ("harbours", .ref (kwdAt ("Chart", some "__init__") "harbours" K))]
abbrev nm_Ship : List Str := ["draught", "slow", "fast", "tank", "fuel"]
abbrev ty_Ship : Tys (Int × Int × Int × Int × Int) := (sCons yInt (sCons yInt (sCons yInt (sCons yInt (sOne yInt)))))
abbrev kw_Ship (K : PySem.W.Frag) : List (Str × V) := [("slow", .int 0), ("fast", .int 1), ("tank", .int 8), ("fuel", .non)]
section
variable {P : Program} {w : World} {K : PySem.W.Frag} {mg : Str → Option Value}
abbrev s_Ship_init : Stmt := inClass (topS 9) 0
abbrev N_Ship_init : List Str := ["self", "draught", "slow", "fast", "tank", "fuel"]
theorem sc_Ship_init : FnScope ["self", "draught", "slow", "fast", "tank", "fuel"] ["self", "draught", "slow", "fast", "tank", "fuel"] (defScope s_Ship_init) := ⟨rfl, rfl, rfl, by decide +kernel, rfl, by decide +kernel, by decide +kernel⟩
def sp_Ship_init (K : PySem.W.Frag) (C_Ship : Addr) : Sp := fun vs H Q _ => ∃ (x0 dx0 : Addr) (d1 : Int) (d2 : Int) (d3 : Int) (d4 : Int) (v5 : V) (d5 : (Option Int)) (r : (Int × Int × Int × Int × Int)), vs = [.ref x0, (.int d1), (.int d2), (.int d3), (.int d4), v5] ∧ (yPart C_Ship dx0 []).rep K H [x0] (.ref x0) [] ∧ (yOpt yInt).rep K H [] v5 d5 ∧ Mi.m_Ship_init d1 d2 d3 d4 d5 = some r ∧ ∀ H', Chg [x0] H H' → (yObj C_Ship nm_Ship ty_Ship).rep K H' [] (.ref x0) r → Q .non H'
theorem ok_Ship_init (B : Bi mg) (CN : Cs K mg) {C_Ship : Addr} (T_Ship : Tx K mg C_Ship "Ship" nm_Ship) (D : DfnI K C_Ship "Ship.__init__" s_Ship_init (kw_Ship K) ) : CalI P w K mg C_Ship "Ship.__init__" s_Ship_init (kw_Ship K) ["self", "draught", "slow", "fast", "tank", "fuel"] 1 (sp_Ship_init K C_Ship) := by
  obtain ⟨f, fd, F, g⟩ := D.ex
  refine ⟨f, fd, g, F, fun base => okD F sc_Ship_init (fun vs H Q E h => ?_) (fun cdv A outer s H0 vs Q E hr h => ?_)⟩
  · obtain ⟨x0, dx0, d1, d2, d3, d4, v5, d5, r, rfl, rs, r5, hm, hQ⟩ := h; rfl
  ·
    obtain ⟨x0, dx0, d1, d2, d3, d4, v5, d5, r, rfl, rs, r5, hm, hQ⟩ := h
    refine ⟨_, pss_cons (ps_if (PW.pt (pw_or (pt_cmpR op_lt (pv 1) pe_int (nomark _)) (pw_or1 (pt_cmpR op_gt (pv 1) (pe_glob (v := .int 99) (by rfl) CN.c_MOST_DRAUGHT.choose_spec ⟨_, rfl⟩) (nomark _))))) (pss_cons ps_never pss_nil) (pss_nil))
      (pss_cons (ps_if (PW.pt (pw_or (pt_cmpR op_lt (pv 2) pe_int (nomark _)) (pw_or (pt_cmpR op_gt (pv 2) (pv 3) (nomark _)) (pw_or1 (pt_cmpR op_gt (pv 3) (pe_glob (v := .int 3) (by rfl) CN.c_MOST_SPEED.choose_spec ⟨_, rfl⟩) (nomark _)))))) (pss_cons ps_never pss_nil) (pss_nil))
      (pss_cons (ps_if (PW.pt (pw_or (pt_cmpR op_lt (pv 4) pe_int (nomark _)) (pw_or1 (pt_cmpR op_gt (pv 4) (pe_glob (v := .int 8) (by rfl) CN.c_MOST_TANK.choose_spec ⟨_, rfl⟩) (nomark _))))) (pss_cons ps_never pss_nil) (pss_nil))
      (pss_cons (ps_if (pt_cmpR op_isN1 (pv 5) pe_non (nomark _)) (pss_cons (ps_set (i := 5) sc_Ship_init.nd rfl (.inl rfl) (pv 4))
      (pss_nil)) (pss_nil))
      (pss_cons (ps_if (PW.pt (pw_or (pt_cmpR op_lt (pv 5) pe_int (nomark _)) (pw_or1 (pt_cmpR op_gt (pv 5) (pv 4) (nomark _))))) (pss_cons ps_never pss_nil) (pss_nil))
      (pss_cons (ps_fld (pv 0) (pv 1) rfl)
      (pss_cons (ps_fld (pv 0) (pv 2) rfl)
      (pss_cons (ps_fld (pv 0) (pv 3) rfl)
      (pss_cons (ps_fld (pv 0) (pv 4) rfl)
      (pss_cons (ps_fld (pv 0) (pv 5) rfl)
      (pss_nil)))))))))), ?_⟩
    have c0 : Chg ([x0]) H0 H0 := Chg.refl H0
    unfold Mi.m_Ship_init at hm
    refine q_if (ans_orB (ans_t (val_lt (val_var rfl) val_c)) (fun _ => (ans_t (val_gt (val_var rfl) val_c)))) (fun hb => ?_) (fun hb => ?_)
    ·
      replace hm := Mi.ifT hb hm
      cases hm
    replace hm := Mi.ifF hb hm
    refine w_fall ?_
    refine q_if (ans_orB (ans_t (val_lt (val_var rfl) val_c)) (fun _ => (ans_orB (ans_t (val_gt (val_var rfl) (val_var rfl))) (fun _ => (ans_t (val_gt (val_var rfl) val_c)))))) (fun hb => ?_) (fun hb => ?_)
    ·
      replace hm := Mi.ifT hb hm
      cases hm
    replace hm := Mi.ifF hb hm
    refine w_fall ?_
    refine q_if (ans_orB (ans_t (val_lt (val_var rfl) val_c)) (fun _ => (ans_t (val_gt (val_var rfl) val_c)))) (fun hb => ?_) (fun hb => ?_)
    ·
      replace hm := Mi.ifT hb hm
      cases hm
    replace hm := Mi.ifF hb hm
    refine w_fall ?_
    obtain ⟨s11, hs11, hm⟩ := Mi.bnd hm
    refine s_join (R := fun σ' H' => ∃ (v12 : V), σ' = [some (.ref x0), some (.int d1), some (.int d2), some (.int d3), some (.int d4), some v12] ∧ Chg ([x0]) H0 H' ∧ (yPart C_Ship dx0 ([] : List Str)).rep K H' [x0] (.ref x0) [] ∧ (yOpt yInt).rep K H' [] v12 s11) (fun nx kx => ?_) (fun σ' H' hj => ?_)
    ·
      refine s_if (ans_t (val_isN r5 (val_var rfl))) (fun hb => ?_) (fun hb => ?_)
      ·
        replace hs11 := Mi.ifT hb hs11
        obtain ⟨fuel14, hfuel14, hs11⟩ := Mi.letE hs11
        refine q_setE (val_var rfl) (congrArg V.int hfuel14) (σ' := [some (.ref x0), some (.int d1), some (.int d2), some (.int d3), some (.int d4), some (.int fuel14)]) rfl ?_
        refine w_nextJ ?_
        obtain rfl := Option.some.inj hs11
        exact kx _ _ ⟨(.int fuel14), rfl, c0, rs, (opt_i nn_int yInt_i)⟩
      ·
        replace hs11 := Mi.ifF hb hs11
        refine w_nextJ ?_
        obtain rfl := Option.some.inj hs11
        exact kx _ _ ⟨v5, rfl, c0, rs, r5⟩
    obtain ⟨v12, rfl, c0, rs, r13⟩ := hj
    obtain ⟨x15, hx15, hm⟩ := Mi.bnd hm
    obtain ⟨_, rfl⟩ := opt_int r13 hx15
    refine q_if (ans_orB (ans_t (val_lt (val_var rfl) val_c)) (fun _ => (ans_t (val_gt (val_var rfl) (val_var rfl))))) (fun hb => ?_) (fun hb => ?_)
    ·
      replace hm := Mi.ifT hb hm
      cases hm
    replace hm := Mi.ifF hb hm
    refine w_fall ?_
    refine q_fld ?_
    refine c_val (val_var rfl) ?_
    refine c_val (val_var rfl) ?_
    refine m_fldP rs T_Ship.cls (T_Ship.na "draught" (by decide +kernel)) (by decide +kernel) rfl (by decide) rfl fun H18 c17 rs => ?_
    have c0 := c0.join c17 (fun a h => .inl (h))
    have rs : (yPart C_Ship dx0 (["draught"] : List Str)).rep K _ [x0] (.ref x0) [(.int d1)] := rs
    refine q_fld ?_
    refine c_val (val_var rfl) ?_
    refine c_val (val_var rfl) ?_
    refine m_fldP rs T_Ship.cls (T_Ship.na "slow" (by decide +kernel)) (by decide +kernel) rfl (by decide) rfl fun H20 c19 rs => ?_
    have c0 := c0.join c19 (fun a h => .inl (h))
    have rs : (yPart C_Ship dx0 (["draught", "slow"] : List Str)).rep K _ [x0] (.ref x0) [(.int d1), (.int d2)] := rs
    refine q_fld ?_
    refine c_val (val_var rfl) ?_
    refine c_val (val_var rfl) ?_
    refine m_fldP rs T_Ship.cls (T_Ship.na "fast" (by decide +kernel)) (by decide +kernel) rfl (by decide) rfl fun H22 c21 rs => ?_
    have c0 := c0.join c21 (fun a h => .inl (h))
    have rs : (yPart C_Ship dx0 (["draught", "slow", "fast"] : List Str)).rep K _ [x0] (.ref x0) [(.int d1), (.int d2), (.int d3)] := rs
    refine q_fld ?_
    refine c_val (val_var rfl) ?_
    refine c_val (val_var rfl) ?_
    refine m_fldP rs T_Ship.cls (T_Ship.na "tank" (by decide +kernel)) (by decide +kernel) rfl (by decide) rfl fun H24 c23 rs => ?_
    have c0 := c0.join c23 (fun a h => .inl (h))
    have rs : (yPart C_Ship dx0 (["draught", "slow", "fast", "tank"] : List Str)).rep K _ [x0] (.ref x0) [(.int d1), (.int d2), (.int d3), (.int d4)] := rs
    refine q_fld ?_
    refine c_val (val_var rfl) ?_
    refine c_val (val_var rfl) ?_
    refine m_fldE (ts := ty_Ship) (d := (d1, d2, d3, d4, x15)) rs T_Ship.cls (T_Ship.na "fuel" (by decide +kernel)) (by decide +kernel) rfl (by decide) rfl ⟨_, _, _, _, rfl, rfl, yInt_i, ⟨_, _, _, _, rfl, rfl, yInt_i, ⟨_, _, _, _, rfl, rfl, yInt_i, ⟨_, _, _, _, rfl, rfl, yInt_i, ⟨_, rfl, yInt_i⟩⟩⟩⟩⟩ fun H26 c25 rs => ?_
    have c0 := c0.join c25 (fun a h => .inl (h))
    refine w_next ?_
    obtain rfl := Option.some.inj hm
    exact hQ _ c0 rs
abbrev s_is_zone : Stmt := topS 17
abbrev N_is_zone : List Str := ["zone", "size", "found", "place"]
theorem sc_is_zone : FnScope ["zone", "size", "found", "place"] ["zone", "size"] (defScope s_is_zone) := ⟨rfl, rfl, rfl, by decide +kernel, rfl, by decide +kernel, by decide +kernel⟩
def sp_is_zone (K : PySem.W.Frag) : Sp := fun vs H Q _ => (∃ (v0 : V) (F0 : List Addr) (d0 : (List Int)) (d1 : Int) (r : Bool), vs = [v0, (.int d1)] ∧ (yLst yInt).rep K H F0 v0 d0 ∧ Mi.m_is_zone_0 d0 d1 = some r ∧ ∀ H', Chg ([]) H H' → Q (.bl r) H') ∨ (∃ (v0 : V) (d0 : (List Int)) (d1 : Int) (r : Bool), vs = [v0, (.int d1)] ∧ (yTupL yInt).rep K H [] v0 d0 ∧ Mi.m_is_zone_1 d0 d1 = some r ∧ ∀ H', Chg ([]) H H' → Q (.bl r) H')
theorem ok_is_zone (B : Bi mg) (CN : Cs K mg) (D : Dfn K mg "is_zone" s_is_zone)  : Cal P w K mg "is_zone" ["zone", "size"] 1 (sp_is_zone K) := by
  obtain ⟨f, fd, F, g⟩ := D.ex
  refine ⟨f, fd, g, F.kp, bindsF F (fun _ _ _ _ _ _ us hl => match us, hl with | [_, _], _ => rfl), fun base => F.ok sc_is_zone (fun vs H Q E h => ?_) (fun cdv A outer s H0 vs Q E hr h => ?_)⟩
  · rcases h with ⟨v0, F0, d0, d1, r, rfl, r0, hm, hQ⟩ | ⟨v0, d0, d1, r, rfl, r0, hm, hQ⟩
    all_goals rfl
  · rcases h with h | h
    ·
      obtain ⟨v0, F0, d0, d1, r, rfl, r0, hm, hQ⟩ := h
      refine ⟨_, pss_cons (ps_set (i := 2) sc_is_zone.nd rfl (.inl rfl) (pe_callTy0 (cl_set0 (w := w)) (by rfl) B.set (by decide +kernel)))
      (pss_cons (ps_for PassesOwn.never rfl (pi_list (pv 0)) (pg_name (i := 3) sc_is_zone.nd rfl (.inl rfl)) (pss_cons (ps_if (PW.pt (pw_or (pt_cmpR op_lt (pv 3) pe_int (nomark _)) (pw_or (pt_cmpR op_ge (pv 3) (pv 1) (nomark _)) (pw_or1 (pt_cmpR (op_in_s (w := w)) (pv 3) (pv 2) (by rfl)))))) (pss_cons (ps_ret pe_bl) pss_nil) (pss_nil))
      (pss_cons (ps_expr (pe_sadd (pv 2) (pa_cons (pv 3) pa_nil)))
      (pss_nil))))
      (pss_cons (ps_ret pe_bl) pss_nil)), ?_⟩
      have c0 : Chg ([] : List Addr) H0 H0 := Chg.refl H0
      unfold Mi.m_is_zone_0 at hm
      refine q_asg ?_
      refine w_cb ?_
      refine w_nil ?_
      refine w_set0 (K := K) (w := w) fun p3 H7 np6 c4 r5 => ?_
      have d8 : Dj F0 [p3] := Ty.nin r0 np6
      have n9 : ∀ a ∈ [p3], H0 a = none := one_fresh (c0.dom p3 np6)
      have r0 := Ty.ex r0 c4
      have c0 := c0.trans c4.none
      refine g_name (σ' := [some v0, some (.int d1), some (.ref p3), none]) rfl ?_
      refine q_for ?_
      refine w_iList ?_
      refine c_val (val_var rfl) ?_
      obtain ⟨e10, he10, hm⟩ := Mi.bnd hm
      refine l_lst r0 (fun i σ' H' => ∃ (s11 : (List Int)) (y12 : Option V), σ' = [some v0, some (.int d1), some (.ref p3), y12] ∧ Chg ([] : List Addr) H0 H' ∧ (yLst yInt).rep K H' F0 v0 d0 ∧ (ySet w).rep K H' [p3] (.ref p3) s11 ∧ Mi.forR (Mi.m_is_zone_0_b1 d1) s11 (List.drop i d0) = some e10) ⟨([] : List Int), none, rfl, c0, r0, r5, he10⟩ (fun i σ' H' hp => by obtain ⟨s11, y12, rfl, c0, r0, r5, _⟩ := hp; exact r0) (fun i15 x14 u16 σ' H' hx13 r17 hp => ?_) (fun σ' H' hp => ?_)
      ·
        obtain ⟨s11, y12, rfl, c0, r0, r5, hle10⟩ := hp
        obtain ⟨o18, hbe10, hore10⟩ := Mi.forR_go hle10 hx13
        unfold Mi.m_is_zone_0_b1 at hbe10
        obtain ⟨_, rfl⟩ := r17
        refine g_name (σ' := [some v0, some (.int d1), some (.ref p3), some (.int x14)]) rfl ?_
        refine q_if (ans_orB (ans_t (val_lt (val_var rfl) val_c)) (fun _ => (ans_orB (ans_t (val_ge (val_var rfl) (val_var rfl))) (fun _ => (ans_t (val_inS r5 (val_var rfl) (val_var rfl))))))) (fun hb => ?_) (fun hb => ?_)
        ·
          replace hbe10 := Mi.ifT hb hbe10
          refine q_ret ?_
          refine c_val val_c ?_
          obtain rfl := Option.some.inj hbe10
          obtain rfl := Mi.or_inl hore10
          obtain rfl := Option.some.inj (Mi.orR_inl hm)
          exact hQ _ c0 
        replace hbe10 := Mi.ifF hb hbe10
        refine w_fall ?_
        refine q_drop (w_sadd (c_val (val_var rfl) ⟨tyv_set r5, ?_⟩))
        refine w_args (va_cons (val_var rfl) va_nil) ?_
        obtain ⟨x21, hx21, hbe10⟩ := Mi.bnd hbe10
        refine m_sadd r5 hx21 fun H23 c22 r5 => ?_
        have r0 := Ty.chg r0 c22 d8
        have c0 := c0.join c22 (fun a h => .inr (n9 a h))
        refine w_nextJ ?_
        obtain rfl := Option.some.inj hbe10
        replace hore10 := Mi.or_inr hore10
        exact ⟨_, (some (.int x14)), rfl, c0, r0, r5, hore10⟩
      obtain ⟨s11, y12, rfl, c0, r0, r5, hle10⟩ := hp
      obtain rfl := Mi.forR_end hle10
      replace hm := Mi.orR_inr hm
      refine q_ret ?_
      refine c_val val_c ?_
      obtain rfl := Option.some.inj hm
      exact hQ _ c0 
    ·
      obtain ⟨v0, d0, d1, r, rfl, r0, hm, hQ⟩ := h
      refine ⟨_, pss_cons (ps_set (i := 2) sc_is_zone.nd rfl (.inl rfl) (pe_callTy0 (cl_set0 (w := w)) (by rfl) B.set (by decide +kernel)))
      (pss_cons (ps_for PassesOwn.never rfl (pi_tup (pv 0)) (pg_name (i := 3) sc_is_zone.nd rfl (.inl rfl)) (pss_cons (ps_if (PW.pt (pw_or (pt_cmpR op_lt (pv 3) pe_int (nomark _)) (pw_or (pt_cmpR op_ge (pv 3) (pv 1) (nomark _)) (pw_or1 (pt_cmpR (op_in_s (w := w)) (pv 3) (pv 2) (by rfl)))))) (pss_cons (ps_ret pe_bl) pss_nil) (pss_nil))
      (pss_cons (ps_expr (pe_sadd (pv 2) (pa_cons (pv 3) pa_nil)))
      (pss_nil))))
      (pss_cons (ps_ret pe_bl) pss_nil)), ?_⟩
      have c0 : Chg ([] : List Addr) H0 H0 := Chg.refl H0
      unfold Mi.m_is_zone_1 at hm
      refine q_asg ?_
      refine w_cb ?_
      refine w_nil ?_
      refine w_set0 (K := K) (w := w) fun p3 H7 np6 c4 r5 => ?_
      have n8 : ∀ a ∈ [p3], H0 a = none := one_fresh (c0.dom p3 np6)
      have r0 := Ty.fz r0 c4
      have c0 := c0.trans c4.none
      refine g_name (σ' := [some v0, some (.int d1), some (.ref p3), none]) rfl ?_
      refine q_for ?_
      refine w_iTup ?_
      refine c_val (val_var rfl) ?_
      obtain ⟨e9, he9, hm⟩ := Mi.bnd hm
      refine l_tup r0 (fun i σ' H' => ∃ (s10 : (List Int)) (y11 : Option V), σ' = [some v0, some (.int d1), some (.ref p3), y11] ∧ Chg ([] : List Addr) H0 H' ∧ (yTupL yInt).rep K H' [] v0 d0 ∧ (ySet w).rep K H' [p3] (.ref p3) s10 ∧ Mi.forR (Mi.m_is_zone_1_b1 d1) s10 (List.drop i d0) = some e9) ⟨([] : List Int), none, rfl, c0, r0, r5, he9⟩ (fun i σ' H' hp => by obtain ⟨s10, y11, rfl, c0, r0, r5, _⟩ := hp; exact r0) (fun i14 x13 u15 σ' H' hx12 r16 hp => ?_) (fun σ' H' hp => ?_)
      ·
        obtain ⟨s10, y11, rfl, c0, r0, r5, hle9⟩ := hp
        obtain ⟨o17, hbe9, hore9⟩ := Mi.forR_go hle9 hx12
        unfold Mi.m_is_zone_1_b1 at hbe9
        obtain ⟨_, rfl⟩ := r16
        refine g_name (σ' := [some v0, some (.int d1), some (.ref p3), some (.int x13)]) rfl ?_
        refine q_if (ans_orB (ans_t (val_lt (val_var rfl) val_c)) (fun _ => (ans_orB (ans_t (val_ge (val_var rfl) (val_var rfl))) (fun _ => (ans_t (val_inS r5 (val_var rfl) (val_var rfl))))))) (fun hb => ?_) (fun hb => ?_)
        ·
          replace hbe9 := Mi.ifT hb hbe9
          refine q_ret ?_
          refine c_val val_c ?_
          obtain rfl := Option.some.inj hbe9
          obtain rfl := Mi.or_inl hore9
          obtain rfl := Option.some.inj (Mi.orR_inl hm)
          exact hQ _ c0 
        replace hbe9 := Mi.ifF hb hbe9
        refine w_fall ?_
        refine q_drop (w_sadd (c_val (val_var rfl) ⟨tyv_set r5, ?_⟩))
        refine w_args (va_cons (val_var rfl) va_nil) ?_
        obtain ⟨x20, hx20, hbe9⟩ := Mi.bnd hbe9
        refine m_sadd r5 hx20 fun H22 c21 r5 => ?_
        have r0 := Ty.fz r0 c21
        have c0 := c0.join c21 (fun a h => .inr (n8 a h))
        refine w_nextJ ?_
        obtain rfl := Option.some.inj hbe9
        replace hore9 := Mi.or_inr hore9
        exact ⟨_, (some (.int x13)), rfl, c0, r0, r5, hore9⟩
      obtain ⟨s10, y11, rfl, c0, r0, r5, hle9⟩ := hp
      obtain rfl := Mi.forR_end hle9
      replace hm := Mi.orR_inr hm
      refine q_ret ?_
      refine c_val val_c ?_
      obtain rfl := Option.some.inj hm
      exact hQ _ c0 
abbrev s_good_numbers : Stmt := topS 23
abbrev N_good_numbers : List Str := ["numbers", "most", "greatest", "number"]
theorem sc_good_numbers : FnScope ["numbers", "most", "greatest", "number"] ["numbers", "most", "greatest"] (defScope s_good_numbers) := ⟨rfl, rfl, rfl, by decide +kernel, rfl, by decide +kernel, by decide +kernel⟩
def sp_good_numbers (K : PySem.W.Frag) : Sp := fun vs H Q _ => ∃ (v0 : V) (F0 : List Addr) (d0 : (List Int)) (d1 : Int) (d2 : Int) (r : Bool), vs = [v0, (.int d1), (.int d2)] ∧ (yLst yInt).rep K H F0 v0 d0 ∧ Mi.m_good_numbers d0 d1 d2 = some r ∧ ∀ H', Chg ([]) H H' → Q (.bl r) H'
theorem ok_good_numbers (B : Bi mg) (CN : Cs K mg) (D : Dfn K mg "good_numbers" s_good_numbers)  : Cal P w K mg "good_numbers" ["numbers", "most", "greatest"] 1 (sp_good_numbers K) := by
  obtain ⟨f, fd, F, g⟩ := D.ex
  refine ⟨f, fd, g, F.kp, bindsF F (fun _ _ _ _ _ _ us hl => match us, hl with | [_, _, _], _ => rfl), fun base => F.ok sc_good_numbers (fun vs H Q E h => ?_) (fun cdv A outer s H0 vs Q E hr h => ?_)⟩
  · obtain ⟨v0, F0, d0, d1, d2, r, rfl, r0, hm, hQ⟩ := h; rfl
  ·
    obtain ⟨v0, F0, d0, d1, d2, r, rfl, r0, hm, hQ⟩ := h
    refine ⟨_, pss_cons (ps_if (PW.pt (pw_or (pt_cmpR op_lt (pe_callB (cl_len (K := K)) (by rfl) B.len PySem.boot_len (pa_cons (pv 0) pa_nil)) pe_int (nomark _)) (pw_or1 (pt_cmpR op_gt (pe_callB (cl_len (K := K)) (by rfl) B.len PySem.boot_len (pa_cons (pv 0) pa_nil)) (pv 1) (nomark _))))) (pss_cons (ps_ret pe_bl) pss_nil) (pss_nil))
      (pss_cons (ps_for PassesOwn.never rfl (pi_list (pv 0)) (pg_name (i := 3) sc_good_numbers.nd rfl (.inl rfl)) (pss_cons (ps_if (PW.pt (pw_or (pt_cmpR op_lt (pv 3) pe_int (nomark _)) (pw_or1 (pt_cmpR op_gt (pv 3) (pv 2) (nomark _))))) (pss_cons (ps_ret pe_bl) pss_nil) (pss_nil))
      (pss_nil)))
      (pss_cons (ps_ret pe_bl) pss_nil)), ?_⟩
    have c0 : Chg ([] : List Addr) H0 H0 := Chg.refl H0
    unfold Mi.m_good_numbers at hm
    refine q_if (ans_orB (ans_t (val_lt (val_lenL r0 (val_var rfl)) val_c)) (fun _ => (ans_t (val_gt (val_lenL r0 (val_var rfl)) (val_var rfl))))) (fun hb => ?_) (fun hb => ?_)
    ·
      replace hm := Mi.ifT hb hm
      refine q_ret ?_
      refine c_val val_c ?_
      obtain rfl := Option.some.inj hm
      exact hQ _ c0 
    replace hm := Mi.ifF hb hm
    refine w_fall ?_
    refine q_for ?_
    refine w_iList ?_
    refine c_val (val_var rfl) ?_
    obtain ⟨e5, he5, hm⟩ := Mi.bnd hm
    refine l_lst r0 (fun i σ' H' => ∃ (s6 : Unit) (y7 : Option V), σ' = [some v0, some (.int d1), some (.int d2), y7] ∧ Chg ([] : List Addr) H0 H' ∧ (yLst yInt).rep K H' F0 v0 d0 ∧ Mi.forR (Mi.m_good_numbers_b1 d2) s6 (List.drop i d0) = some e5) ⟨(), none, rfl, c0, r0, he5⟩ (fun i σ' H' hp => by obtain ⟨s6, y7, rfl, c0, r0, _⟩ := hp; exact r0) (fun i10 x9 u11 σ' H' hx8 r12 hp => ?_) (fun σ' H' hp => ?_)
    ·
      obtain ⟨s6, y7, rfl, c0, r0, hle5⟩ := hp
      obtain ⟨o13, hbe5, hore5⟩ := Mi.forR_go hle5 hx8
      unfold Mi.m_good_numbers_b1 at hbe5
      obtain ⟨_, rfl⟩ := r12
      refine g_name (σ' := [some v0, some (.int d1), some (.int d2), some (.int x9)]) rfl ?_
      refine q_if (ans_orB (ans_t (val_lt (val_var rfl) val_c)) (fun _ => (ans_t (val_gt (val_var rfl) (val_var rfl))))) (fun hb => ?_) (fun hb => ?_)
      ·
        replace hbe5 := Mi.ifT hb hbe5
        refine q_ret ?_
        refine c_val val_c ?_
        obtain rfl := Option.some.inj hbe5
        obtain rfl := Mi.or_inl hore5
        obtain rfl := Option.some.inj (Mi.orR_inl hm)
        exact hQ _ c0 
      replace hbe5 := Mi.ifF hb hbe5
      refine w_fall ?_
      refine w_nextJ ?_
      obtain rfl := Option.some.inj hbe5
      replace hore5 := Mi.or_inr hore5
      exact ⟨_, (some (.int x9)), rfl, c0, r0, hore5⟩
    obtain ⟨s6, y7, rfl, c0, r0, hle5⟩ := hp
    obtain rfl := Mi.forR_end hle5
    replace hm := Mi.orR_inr hm
    refine q_ret ?_
    refine c_val val_c ?_
    obtain rfl := Option.some.inj hm
    exact hQ _ c0 
abbrev s_good_depths : Stmt := topS 24
abbrev N_good_depths : List Str := ["depths"]
theorem sc_good_depths : FnScope ["depths"] ["depths"] (defScope s_good_depths) := ⟨rfl, rfl, rfl, by decide +kernel, rfl, by decide +kernel, by decide +kernel⟩
def sp_good_depths (K : PySem.W.Frag) : Sp := fun vs H Q _ => ∃ (v0 : V) (F0 : List Addr) (d0 : (List Int)) (r : Bool), vs = [v0] ∧ (yLst yInt).rep K H F0 v0 d0 ∧ Mi.m_good_depths d0 = some r ∧ ∀ H', Chg ([]) H H' → Q (.bl r) H'
theorem ok_good_depths (B : Bi mg) (CN : Cs K mg) (D : Dfn K mg "good_depths" s_good_depths) (C_good_numbers : Cal P w K mg "good_numbers" ["numbers", "most", "greatest"] 1 (sp_good_numbers K)) : Cal P w K mg "good_depths" ["depths"] 2 (sp_good_depths K) := by
  obtain ⟨f, fd, F, g⟩ := D.ex
  refine ⟨f, fd, g, F.kp, bindsF F (fun _ _ _ _ _ _ us hl => match us, hl with | [_], _ => rfl), fun base => F.ok sc_good_depths (fun vs H Q E h => ?_) (fun cdv A outer s H0 vs Q E hr h => ?_)⟩
  · obtain ⟨v0, F0, d0, r, rfl, r0, hm, hQ⟩ := h; rfl
  ·
    obtain ⟨v0, F0, d0, r, rfl, r0, hm, hQ⟩ := h
    refine ⟨_, pss_cons (ps_ret (pe_cc C_good_numbers hr (pa_cons (pv 0) (pa_cons (pe_glob (v := .int 12) (by rfl) CN.c_MOST_PLACES.choose_spec ⟨_, rfl⟩) (pa_cons (pe_glob (v := .int 99) (by rfl) CN.c_GREATEST_DEPTH.choose_spec ⟨_, rfl⟩) pa_nil))))) pss_nil, ?_⟩
    have c0 : Chg ([] : List Addr) H0 H0 := Chg.refl H0
    unfold Mi.m_good_depths at hm
    refine q_ret ?_
    refine w_call ?_
    refine w_args (va_cons (val_var rfl) (va_cons val_c (va_cons val_c va_nil))) ?_
    obtain ⟨q2, hq2, hm⟩ := Mi.bnd hm
    refine ⟨v0, F0, d0, (12 : Int), (99 : Int), q2, rfl, r0, hq2, fun H4 c3  => ?_⟩
    have r0 := Ty.ex r0 c3
    have c0 := c0.trans c3.none
    obtain rfl := Option.some.inj hm
    exact hQ _ c0 
abbrev s_good_lanes : Stmt := topS 25
abbrev N_good_lanes : List Str := ["lanes", "size", "known", "one", "other", "low", "high"]
theorem sc_good_lanes : FnScope ["lanes", "size", "known", "one", "other", "low", "high"] ["lanes", "size"] (defScope s_good_lanes) := ⟨rfl, rfl, rfl, by decide +kernel, rfl, by decide +kernel, by decide +kernel⟩
def sp_good_lanes (K : PySem.W.Frag) : Sp := fun vs H Q _ => ∃ (v0 : V) (F0 : List Addr) (d0 : (List (Int × Int))) (d1 : Int) (r : Bool), vs = [v0, (.int d1)] ∧ (yLst (yTup (sCons yInt (sOne yInt)))).rep K H F0 v0 d0 ∧ Mi.m_good_lanes d0 d1 = some r ∧ ∀ H', Chg ([]) H H' → Q (.bl r) H'
theorem ok_good_lanes (B : Bi mg) (CN : Cs K mg) (D : Dfn K mg "good_lanes" s_good_lanes)  : Cal P w K mg "good_lanes" ["lanes", "size"] 1 (sp_good_lanes K) := by
  obtain ⟨f, fd, F, g⟩ := D.ex
  refine ⟨f, fd, g, F.kp, bindsF F (fun _ _ _ _ _ _ us hl => match us, hl with | [_, _], _ => rfl), fun base => F.ok sc_good_lanes (fun vs H Q E h => ?_) (fun cdv A outer s H0 vs Q E hr h => ?_)⟩
  · obtain ⟨v0, F0, d0, d1, r, rfl, r0, hm, hQ⟩ := h; rfl
  ·
    obtain ⟨v0, F0, d0, d1, r, rfl, r0, hm, hQ⟩ := h
    refine ⟨_, pss_cons (ps_set (i := 2) sc_good_lanes.nd rfl (.inl rfl) (pe_callTy0 (cl_setP0 (P := P) (w := w)) (by rfl) B.set (by decide +kernel)))
      (pss_cons (ps_for PassesOwn.never rfl (pi_list (pv 0)) (pg_tupk (K := K) (n := 2) rfl (pgs_cons (pg_name (i := 3) sc_good_lanes.nd rfl (.inl rfl)) (pgs_cons (pg_name (i := 4) sc_good_lanes.nd rfl (.inl rfl)) pgs_nil))) (pss_cons (ps_set (i := 5) sc_good_lanes.nd rfl (.inl rfl) (pe_callB (cl_min2 rfl) (by rfl) B.min (by decide +kernel) (pa_cons (pv 3) (pa_cons (pv 4) pa_nil))))
      (pss_cons (ps_set (i := 6) sc_good_lanes.nd rfl (.inl rfl) (pe_callB (cl_max2 rfl) (by rfl) B.max (by decide +kernel) (pa_cons (pv 3) (pa_cons (pv 4) pa_nil))))
      (pss_cons (ps_if (PW.pt (pw_or (pt_cmpR op_lt (pv 5) pe_int (nomark _)) (pw_or (pt_cmpR op_ge (pv 6) (pv 1) (nomark _)) (pw_or (pt_cmpR op_eq (pv 5) (pv 6) (nomark _)) (pw_or1 (pt_cmpR (op_inP (K := K) (P := P) (w := w) hr.units) (pe_tup (pa_cons (pv 5) (pa_cons (pv 6) pa_nil))) (pv 2) (by rfl))))))) (pss_cons (ps_ret pe_bl) pss_nil) (pss_nil))
      (pss_cons (ps_expr (pe_saddP (K := K) (P := P) (w := w) hr.units (pv 2) (pa_cons (pe_tup (pa_cons (pv 5) (pa_cons (pv 6) pa_nil))) pa_nil)))
      (pss_nil))))))
      (pss_cons (ps_ret pe_bl) pss_nil)), ?_⟩
    have c0 : Chg ([] : List Addr) H0 H0 := Chg.refl H0
    unfold Mi.m_good_lanes at hm
    refine q_asg ?_
    refine w_cb ?_
    refine w_nil ?_
    refine w_setP0 (K := K) (P := P) (w := w) fun p3 H7 np6 c4 r5 => ?_
    have d8 : Dj F0 [p3] := Ty.nin r0 np6
    have n9 : ∀ a ∈ [p3], H0 a = none := one_fresh (c0.dom p3 np6)
    have r0 := Ty.ex r0 c4
    have c0 := c0.trans c4.none
    refine g_name (σ' := [some v0, some (.int d1), some (.ref p3), none, none, none, none]) rfl ?_
    refine q_for ?_
    refine w_iList ?_
    refine c_val (val_var rfl) ?_
    obtain ⟨e10, he10, hm⟩ := Mi.bnd hm
    refine l_lst r0 (fun i σ' H' => ∃ (s11 : (List (Int × Int))) (y12 : Option V) (y13 : Option V) (y14 : Option V) (y15 : Option V), σ' = [some v0, some (.int d1), some (.ref p3), y12, y13, y14, y15] ∧ Chg ([] : List Addr) H0 H' ∧ (yLst (yTup (sCons yInt (sOne yInt)))).rep K H' F0 v0 d0 ∧ (ySetP P w).rep K H' [p3] (.ref p3) s11 ∧ Mi.forR (Mi.m_good_lanes_b1 d1) s11 (List.drop i d0) = some e10) ⟨([] : List (Int × Int)), none, none, none, none, rfl, c0, r0, r5, he10⟩ (fun i σ' H' hp => by obtain ⟨s11, y12, y13, y14, y15, rfl, c0, r0, r5, _⟩ := hp; exact r0) (fun i18 x17 u19 σ' H' hx16 r20 hp => ?_) (fun σ' H' hp => ?_)
    ·
      obtain ⟨s11, y12, y13, y14, y15, rfl, c0, r0, r5, hle10⟩ := hp
      obtain ⟨o21, hbe10, hore10⟩ := Mi.forR_go hle10 hx16
      unfold Mi.m_good_lanes_b1 at hbe10
      refine g_tup2 r20 fun u22 u23 r24 r25 => ?_
      obtain ⟨_, rfl⟩ := r24
      obtain ⟨_, rfl⟩ := r25
      refine g_names (σ' := [some v0, some (.int d1), some (.ref p3), some (.int x17.1), some (.int x17.2), y14, y15]) rfl ?_
      obtain ⟨low26, hlow26, hbe10⟩ := Mi.letE hbe10
      refine q_setE (val_min2 (val_var rfl) (val_var rfl)) (congrArg V.int hlow26) (σ' := [some v0, some (.int d1), some (.ref p3), some (.int x17.1), some (.int x17.2), some (.int low26), y15]) rfl ?_
      obtain ⟨high27, hhigh27, hbe10⟩ := Mi.letE hbe10
      refine q_setE (val_max2 (val_var rfl) (val_var rfl)) (congrArg V.int hhigh27) (σ' := [some v0, some (.int d1), some (.ref p3), some (.int x17.1), some (.int x17.2), some (.int low26), some (.int high27)]) rfl ?_
      refine q_ifS ?_
      obtain ⟨b28, hb28, hbe10⟩ := Mi.bnd hbe10
      refine j_tt b28 (R := fun H' => Chg ([] : List Addr) H0 H' ∧ (yLst (yTup (sCons yInt (sOne yInt)))).rep K H' F0 v0 d0 ∧ (ySetP P w).rep K H' [p3] (.ref p3) s11) (fun Q' kq => ?_) (fun H' hj => ?_)
      ·
        refine w_or ?_
        refine c_ans (ans_t (val_lt (val_var rfl) val_c)) ?_
        refine c_if (fun hb => ?_) (fun hb => ?_)
        ·
          replace hb28 := Mi.ifT hb hb28
          obtain rfl := Option.some.inj hb28
          exact kq _ ⟨c0, r0, r5⟩
        replace hb28 := Mi.ifF hb hb28
        refine w_or ?_
        refine c_ans (ans_t (val_ge (val_var rfl) (val_var rfl))) ?_
        refine c_if (fun hb => ?_) (fun hb => ?_)
        ·
          replace hb28 := Mi.ifT hb hb28
          obtain rfl := Option.some.inj hb28
          exact kq _ ⟨c0, r0, r5⟩
        replace hb28 := Mi.ifF hb hb28
        refine w_or ?_
        refine c_ans (ans_t (val_eqI (val_var rfl) (val_var rfl))) ?_
        refine c_if (fun hb => ?_) (fun hb => ?_)
        ·
          replace hb28 := Mi.ifT hb hb28
          obtain rfl := Option.some.inj hb28
          exact kq _ ⟨c0, r0, r5⟩
        replace hb28 := Mi.ifF hb hb28
        refine w_test ?_
        refine w_op ?_
        refine w_tup ?_
        refine w_args (va_cons (val_var rfl) (va_cons (val_var rfl) va_nil)) ?_
        refine e_tup (K := K) (ty := (sCons yInt (sOne yInt))) (F := []) (d := (low26, high27)) (by exact Nat.le_of_ble_eq_true rfl) ⟨_, _, _, _, rfl, rfl, yInt_i, ⟨_, rfl, yInt_i⟩⟩ fun p29 H33 np32 c30 r31 => ?_
        have r0 := Ty.ex r0 c30
        have r5 := Ty.ex r5 c30
        have c0 := c0.trans c30.none
        refine c_val (val_var rfl) ?_
        refine w_inP r5 r31 ?_
        refine ⟨_, rfl, ?_⟩
        obtain rfl := Option.some.inj hb28
        exact kq _ ⟨c0, r0, r5⟩
      obtain ⟨c0, r0, r5⟩ := hj
      refine c_if (fun hb => ?_) (fun hb => ?_)
      ·
        replace hbe10 := Mi.ifT hb hbe10
        refine q_ret ?_
        refine c_val val_c ?_
        obtain rfl := Option.some.inj hbe10
        obtain rfl := Mi.or_inl hore10
        obtain rfl := Option.some.inj (Mi.orR_inl hm)
        exact hQ _ c0 
      replace hbe10 := Mi.ifF hb hbe10
      refine w_fall ?_
      refine q_drop (w_badd (c_val (val_var rfl) ⟨tyv_setP r5, ?_⟩))
      refine w_cons ?_
      refine w_tup ?_
      refine w_args (va_cons (val_var rfl) (va_cons (val_var rfl) va_nil)) ?_
      refine e_tup (K := K) (ty := (sCons yInt (sOne yInt))) (F := []) (d := (low26, high27)) (by exact Nat.le_of_ble_eq_true rfl) ⟨_, _, _, _, rfl, rfl, yInt_i, ⟨_, rfl, yInt_i⟩⟩ fun p34 H38 np37 c35 r36 => ?_
      have r0 := Ty.ex r0 c35
      have r5 := Ty.ex r5 c35
      have c0 := c0.trans c35.none
      refine w_nil ?_
      obtain ⟨x39, hx39, hbe10⟩ := Mi.bnd hbe10
      refine m_saddP r5 r36 hx39 fun H41 c40 r5 => ?_
      have r0 := Ty.chg r0 c40 d8
      have c0 := c0.join c40 (fun a h => .inr (n9 a h))
      refine w_nextJ ?_
      obtain rfl := Option.some.inj hbe10
      replace hore10 := Mi.or_inr hore10
      exact ⟨_, (some (.int x17.1)), (some (.int x17.2)), (some (.int low26)), (some (.int high27)), rfl, c0, r0, r5, hore10⟩
    obtain ⟨s11, y12, y13, y14, y15, rfl, c0, r0, r5, hle10⟩ := hp
    obtain rfl := Mi.forR_end hle10
    replace hm := Mi.orR_inr hm
    refine q_ret ?_
    refine c_val val_c ?_
    obtain rfl := Option.some.inj hm
    exact hQ _ c0 
abbrev s_good_tide : Stmt := topS 26
abbrev N_good_tide : List Str := ["tide"]
theorem sc_good_tide : FnScope ["tide"] ["tide"] (defScope s_good_tide) := ⟨rfl, rfl, rfl, by decide +kernel, rfl, by decide +kernel, by decide +kernel⟩
def sp_good_tide (K : PySem.W.Frag) : Sp := fun vs H Q _ => ∃ (v0 : V) (F0 : List Addr) (d0 : (List Int)) (r : Bool), vs = [v0] ∧ (yLst yInt).rep K H F0 v0 d0 ∧ Mi.m_good_tide d0 = some r ∧ ∀ H', Chg ([]) H H' → Q (.bl r) H'
theorem ok_good_tide (B : Bi mg) (CN : Cs K mg) (D : Dfn K mg "good_tide" s_good_tide) (C_good_numbers : Cal P w K mg "good_numbers" ["numbers", "most", "greatest"] 1 (sp_good_numbers K)) : Cal P w K mg "good_tide" ["tide"] 2 (sp_good_tide K) := by
  obtain ⟨f, fd, F, g⟩ := D.ex
  refine ⟨f, fd, g, F.kp, bindsF F (fun _ _ _ _ _ _ us hl => match us, hl with | [_], _ => rfl), fun base => F.ok sc_good_tide (fun vs H Q E h => ?_) (fun cdv A outer s H0 vs Q E hr h => ?_)⟩
  · obtain ⟨v0, F0, d0, r, rfl, r0, hm, hQ⟩ := h; rfl
  ·
    obtain ⟨v0, F0, d0, r, rfl, r0, hm, hQ⟩ := h
    refine ⟨_, pss_cons (ps_ret (pe_cc C_good_numbers hr (pa_cons (pv 0) (pa_cons (pe_glob (v := .int 12) (by rfl) CN.c_MOST_TIDE_NUMBERS.choose_spec ⟨_, rfl⟩) (pa_cons (pe_glob (v := .int 20) (by rfl) CN.c_GREATEST_TIDE.choose_spec ⟨_, rfl⟩) pa_nil))))) pss_nil, ?_⟩
    have c0 : Chg ([] : List Addr) H0 H0 := Chg.refl H0
    unfold Mi.m_good_tide at hm
    refine q_ret ?_
    refine w_call ?_
    refine w_args (va_cons (val_var rfl) (va_cons val_c (va_cons val_c va_nil))) ?_
    obtain ⟨q2, hq2, hm⟩ := Mi.bnd hm
    refine ⟨v0, F0, d0, (12 : Int), (20 : Int), q2, rfl, r0, hq2, fun H4 c3  => ?_⟩
    have r0 := Ty.ex r0 c3
    have c0 := c0.trans c3.none
    obtain rfl := Option.some.inj hm
    exact hQ _ c0 
abbrev s_good_harbours : Stmt := topS 27
abbrev N_good_harbours : List Str := ["harbours", "size"]
theorem sc_good_harbours : FnScope ["harbours", "size"] ["harbours", "size"] (defScope s_good_harbours) := ⟨rfl, rfl, rfl, by decide +kernel, rfl, by decide +kernel, by decide +kernel⟩
def sp_good_harbours (K : PySem.W.Frag) : Sp := fun vs H Q _ => ∃ (v0 : V) (F0 : List Addr) (d0 : (List Int)) (d1 : Int) (r : Bool), vs = [v0, (.int d1)] ∧ (yLst yInt).rep K H F0 v0 d0 ∧ Mi.m_good_harbours d0 d1 = some r ∧ ∀ H', Chg ([]) H H' → Q (.bl r) H'
theorem ok_good_harbours (B : Bi mg) (CN : Cs K mg) (D : Dfn K mg "good_harbours" s_good_harbours) (C_is_zone : Cal P w K mg "is_zone" ["zone", "size"] 1 (sp_is_zone K)) : Cal P w K mg "good_harbours" ["harbours", "size"] 2 (sp_good_harbours K) := by
  obtain ⟨f, fd, F, g⟩ := D.ex
  refine ⟨f, fd, g, F.kp, bindsF F (fun _ _ _ _ _ _ us hl => match us, hl with | [_, _], _ => rfl), fun base => F.ok sc_good_harbours (fun vs H Q E h => ?_) (fun cdv A outer s H0 vs Q E hr h => ?_)⟩
  · obtain ⟨v0, F0, d0, d1, r, rfl, r0, hm, hQ⟩ := h; rfl
  ·
    obtain ⟨v0, F0, d0, d1, r, rfl, r0, hm, hQ⟩ := h
    refine ⟨_, pss_cons (ps_ret (pe_cc C_is_zone hr (pa_cons (pv 0) (pa_cons (pv 1) pa_nil)))) pss_nil, ?_⟩
    have c0 : Chg ([] : List Addr) H0 H0 := Chg.refl H0
    unfold Mi.m_good_harbours at hm
    refine q_ret ?_
    refine w_call ?_
    refine w_args (va_cons (val_var rfl) (va_cons (val_var rfl) va_nil)) ?_
    obtain ⟨q3, hq3, hm⟩ := Mi.bnd hm
    refine Or.inl ⟨v0, F0, d0, d1, q3, rfl, r0, hq3, fun H5 c4  => ?_⟩
    have r0 := Ty.ex r0 c4
    have c0 := c0.trans c4.none
    obtain rfl := Option.some.inj hm
    exact hQ _ c0 
abbrev s_ordered_lanes : Stmt := topS 28
abbrev N_ordered_lanes : List Str := ["lanes", "one", "other"]
theorem sc_ordered_lanes : FnScope ["lanes", "one", "other"] ["lanes"] (defScope s_ordered_lanes) := ⟨rfl, rfl, rfl, by decide +kernel, rfl, by decide +kernel, by decide +kernel⟩
def sp_ordered_lanes (K : PySem.W.Frag) : Sp := fun vs H Q _ => ∃ (v0 : V) (F0 : List Addr) (d0 : (List (Int × Int))) (r : (List (Int × Int))), vs = [v0] ∧ (yLst (yTup (sCons yInt (sOne yInt)))).rep K H F0 v0 d0 ∧ Mi.m_ordered_lanes d0 = some r ∧ ∀ v H', Chg ([]) H H' → (yTupL (yTup (sCons yInt (sOne yInt)))).rep K H' [] v r → Q v H'
theorem ok_ordered_lanes (B : Bi mg) (CN : Cs K mg) (D : Dfn K mg "ordered_lanes" s_ordered_lanes)  : Cal P w K mg "ordered_lanes" ["lanes"] 1 (sp_ordered_lanes K) := by
  obtain ⟨f, fd, F, g⟩ := D.ex
  refine ⟨f, fd, g, F.kp, bindsF F (fun _ _ _ _ _ _ us hl => match us, hl with | [_], _ => rfl), fun base => F.ok sc_ordered_lanes (fun vs H Q E h => ?_) (fun cdv A outer s H0 vs Q E hr h => ?_)⟩
  · obtain ⟨v0, F0, d0, r, rfl, r0, hm, hQ⟩ := h; rfl
  ·
    obtain ⟨v0, F0, d0, r, rfl, r0, hm, hQ⟩ := h
    refine ⟨_, pss_cons (ps_ret (pe_callTy (cl_tuple (K := K)) (by rfl) B.tuple (by decide +kernel) (pa_cons (pe_callB (cl_sortP (K := K)) (by rfl) B.sorted (by decide +kernel) (pa_cons (pe_lc (own := [("one", 1), ("other", 2)]) rfl sc_ordered_lanes.nd (pi_list (pv 0)) (blkOk_by (own := [("one", 1), ("other", 2)]) (N := N_ordered_lanes) (sc := defScope s_ordered_lanes) (by decide +kernel)) (fun _ _ _ _ _ => (pg_tupk (K := K) (n := 2) rfl (pgs_cons (pg_name (i := 1) sc_ordered_lanes.nd rfl (.inl rfl)) (pgs_cons (pg_name (i := 2) sc_ordered_lanes.nd rfl (.inl rfl)) pgs_nil)))) (fun _ _ _ _ _ => pts_nil) (fun _ _ _ _ _ => (pe_tup (pa_cons (pe_callB (cl_min2 rfl) (by rfl) B.min (by decide +kernel) (pa_cons (pv 1) (pa_cons (pv 2) pa_nil))) (pa_cons (pe_callB (cl_max2 rfl) (by rfl) B.max (by decide +kernel) (pa_cons (pv 1) (pa_cons (pv 2) pa_nil))) pa_nil))))) pa_nil)) pa_nil))) pss_nil, ?_⟩
    have c0 : Chg ([] : List Addr) H0 H0 := Chg.refl H0
    unfold Mi.m_ordered_lanes at hm
    refine q_ret ?_
    refine w_cb ?_
    refine w_cons ?_
    refine w_cb ?_
    refine w_cons ?_
    refine w_lc ?_
    refine w_iList ?_
    refine c_val (val_var rfl) ?_
    obtain ⟨e2, he2, hm⟩ := Mi.bnd hm
    refine kc_lst (K := K) (τ := (yTup (sCons yInt (sOne yInt)))) r0 (fun D4 i H' => ∃ (s3 : (List (Int × Int))), Chg ([] : List Addr) H0 H' ∧ (yLst (yTup (sCons yInt (sOne yInt)))).rep K H' F0 v0 d0 ∧ (yLst (yTup (sCons yInt (sOne yInt)))).rep K H' [D4] (.ref D4) s3 ∧ Dj F0 [D4] ∧ (∀ a ∈ [D4], H0 a = none) ∧ Mi.forN (Mi.m_ordered_lanes_b1) s3 (List.drop i d0) = some e2) (fun D4 H10 np9 c8 r5 => ⟨([] : (List (Int × Int))), c0.trans c8.none, (Ty.ex r0 c8), r5, Ty.nin r0 np9, one_fresh (c0.dom D4 np9), he2⟩) (fun D4 i H' hp => by obtain ⟨s3, c0, r0, r5, d6, n7, _⟩ := hp; exact r0) (fun D4 i13 x12 u15 H14 hx11 r16 hp => ?_) (fun D4 H' np9 hp => ?_)
    ·
      obtain ⟨s3, c0, r0, r5, d6, n7, hle2⟩ := hp
      obtain ⟨_, hbe2, hle2⟩ := Mi.forN_go hle2 hx11
      unfold Mi.m_ordered_lanes_b1 at hbe2
      refine g_tup2 r16 fun u21 u22 r23 r24 => ?_
      obtain ⟨_, rfl⟩ := r23
      obtain ⟨_, rfl⟩ := r24
      refine ⟨rfl, ?_⟩
      refine st_eqT (σ' := [some v0, some (.int x12.1), some (.int x12.2)]) rfl ?_
      refine w_yes ?_
      refine iteT ?_
      refine w_tup ?_
      refine w_args (va_cons (val_min2 (val_var rfl) (val_var rfl)) (va_cons (val_max2 (val_var rfl) (val_var rfl)) va_nil)) ?_
      refine e_tup (K := K) (ty := (sCons yInt (sOne yInt))) (F := []) (d := ((min x12.1 x12.2), (max x12.1 x12.2))) (by exact Nat.le_of_ble_eq_true rfl) ⟨_, _, _, _, rfl, rfl, yInt_i, ⟨_, rfl, yInt_i⟩⟩ fun p25 H29 np28 c26 r27 => ?_
      have r0 := Ty.ex r0 c26
      have r5 := Ty.ex r5 c26
      have c0 := c0.trans c26.none
      obtain ⟨x30, hx30, hbe2⟩ := Mi.bnd hbe2
      refine e_app r5 r27 hx30 fun H32 c31 r5 => ?_
      have r0 := Ty.chg r0 c31 d6
      have c0 := c0.join c31 (fun a h => .inr (n7 a h))
      obtain rfl := Option.some.inj hbe2
      exact ⟨x30, c0, r0, r5, d6, n7, hle2⟩
    obtain ⟨s3, c0, r0, r5, d6, n7, hle2⟩ := hp
    obtain rfl := Mi.forN_end hle2
    refine w_nil ?_
    refine w_sortedP r5 fun p33 H37 np36 c34 r35 => ?_
    have d38 : Dj F0 [p33] := Ty.nin r0 np36
    have d39 : Dj [D4] [p33] := Ty.nin r5 np36
    have n40 : ∀ a ∈ [p33], H0 a = none := one_fresh (c0.dom p33 np36)
    have r0 := Ty.ex r0 c34
    have r5 := Ty.ex r5 c34
    have c0 := c0.trans c34.none
    refine w_nil ?_
    refine w_tupleL r35 fun v41 H42 c43 r44 => ?_
    have r0 := Ty.ex r0 c43
    have r35 := Ty.ex r35 c43
    have c0 := c0.trans c43.none
    obtain rfl := Option.some.inj hm
    exact hQ _ _ c0 r44 
abbrev s_joined_places : Stmt := topS 29
abbrev N_joined_places : List Str := ["size", "lanes", "rows", "low", "high", "place", "row"]
theorem sc_joined_places : FnScope ["size", "lanes", "rows", "low", "high", "place", "row"] ["size", "lanes"] (defScope s_joined_places) := ⟨rfl, rfl, rfl, by decide +kernel, rfl, by decide +kernel, by decide +kernel⟩
def sp_joined_places (K : PySem.W.Frag) : Sp := fun vs H Q _ => ∃ (d0 : Int) (v1 : V) (d1 : (List (Int × Int))) (r : (List (List Int))), vs = [(.int d0), v1] ∧ (yTupL (yTup (sCons yInt (sOne yInt)))).rep K H [] v1 d1 ∧ Mi.m_joined_places d0 d1 = some r ∧ ∀ v H', Chg ([]) H H' → (yTupL (yTupL yInt)).rep K H' [] v r → Q v H'
theorem ok_joined_places (B : Bi mg) (CN : Cs K mg) (D : Dfn K mg "joined_places" s_joined_places)  : Cal P w K mg "joined_places" ["size", "lanes"] 1 (sp_joined_places K) := by
  obtain ⟨f, fd, F, g⟩ := D.ex
  refine ⟨f, fd, g, F.kp, bindsF F (fun _ _ _ _ _ _ us hl => match us, hl with | [_, _], _ => rfl), fun base => F.ok sc_joined_places (fun vs H Q E h => ?_) (fun cdv A outer s H0 vs Q E hr h => ?_)⟩
  · obtain ⟨d0, v1, d1, r, rfl, r1, hm, hQ⟩ := h; rfl
  ·
    obtain ⟨d0, v1, d1, r, rfl, r1, hm, hQ⟩ := h
    refine ⟨_, pss_cons (ps_setLc (i := 2) (own := [("place", 5)]) rfl sc_joined_places.nd rfl rfl (sw_true rfl rfl rfl (by decide +kernel)) (pi_range1 (by rfl) B.range (pa_cons (pv 0) pa_nil)) (blkOk_by (own := [("place", 5)]) (N := N_joined_places) (sc := defScope s_joined_places) (by decide +kernel)) (fun _ _ _ _ _ => (pg_name (i := 5) sc_joined_places.nd rfl (.inl rfl))) (fun _ _ _ _ _ => pts_nil) (fun _ _ _ _ _ => (pe_lst pa_nil)))
      (pss_cons (ps_for PassesOwn.never rfl (pi_tup (pv 1)) (pg_tupk (K := K) (n := 2) rfl (pgs_cons (pg_name (i := 3) sc_joined_places.nd rfl (.inl rfl)) (pgs_cons (pg_name (i := 4) sc_joined_places.nd rfl (.inl rfl)) pgs_nil))) (pss_cons (ps_expr (pe_bm PySem.F.plainAttrs_list PySem.F.slot_list_append PySem.F.type_list_append mt_append (pe_ix (ix_l (K := K)) (pv 2) (pv 3) (fun _ _ => rfl)) (pa_cons (pv 4) pa_nil)))
      (pss_cons (ps_expr (pe_bm PySem.F.plainAttrs_list PySem.F.slot_list_append PySem.F.type_list_append mt_append (pe_ix (ix_l (K := K)) (pv 2) (pv 4) (fun _ _ => rfl)) (pa_cons (pv 3) pa_nil)))
      (pss_nil))))
      (pss_cons (ps_ret (pe_callTy (cl_tuple (K := K)) (by rfl) B.tuple (by decide +kernel) (pa_cons (pe_lc (own := [("row", 6)]) rfl sc_joined_places.nd (pi_list (pv 2)) (blkOk_by (own := [("row", 6)]) (N := N_joined_places) (sc := defScope s_joined_places) (by decide +kernel)) (fun _ _ _ _ _ => (pg_name (i := 6) sc_joined_places.nd rfl (.inl rfl))) (fun _ _ _ _ _ => pts_nil) (fun _ _ _ _ _ => (pe_callTy (cl_tuple (K := K)) (by rfl) B.tuple (by decide +kernel) (pa_cons (pv 6) pa_nil)))) pa_nil))) pss_nil)), ?_⟩
    have c0 : Chg ([] : List Addr) H0 H0 := Chg.refl H0
    unfold Mi.m_joined_places at hm
    refine q_asg ?_
    refine w_lc ?_
    refine w_iRng1 ?_
    refine w_args (va_cons (val_var rfl) va_nil) ?_
    obtain ⟨g3, hg3, hm⟩ := Mi.bnd hm
    obtain ⟨e4, he4, hm⟩ := Mi.bnd hm
    refine kc_rng1 (K := K) (τ := yInt) hg3 (fun D6 i H' => ∃ (s5 : (List (List Int))) (F8 : List Addr), Chg ([] : List Addr) H0 H' ∧ (yTupL (yTup (sCons yInt (sOne yInt)))).rep K H' [] v1 d1 ∧ (yOwn (yLst yInt)).rep K H' F8 (.ref D6) s5 ∧ (∀ a ∈ F8, H0 a = none) ∧ Mi.forN (Mi.m_joined_places_b1) s5 (List.drop i g3) = some e4) (fun D6 H12 np11 c10 r7 => ⟨([] : (List (List Int))), [D6], c0.trans c10.none, (Ty.fz r1 c10), own_nil r7, one_fresh (c0.dom D6 np11), he4⟩) (fun D6 i15 x14 H16 hx13 hp => ?_) (fun D6 H' np11 hp => ?_)
    ·
      obtain ⟨s5, F8, c0, r1, r7, n9, hle4⟩ := hp
      obtain ⟨_, hbe4, hle4⟩ := Mi.forN_go hle4 hx13
      unfold Mi.m_joined_places_b1 at hbe4
      refine g_name (σ' := [some (.int d0), some v1, none, none, none, some (.int x14), none]) rfl ?_
      refine ⟨rfl, ?_⟩
      refine w_yes ?_
      refine iteT ?_
      refine w_lst ?_
      refine w_args va_nil ?_
      refine e_lst (K := K) (τ := yInt) (by exact Nat.le_of_ble_eq_true rfl) .nil fun p23 H27 np26 c24 r25 => ?_
      have d28 : Dj F8 [p23] := Ty.nin r7 np26
      have n29 : ∀ a ∈ [p23], H0 a = none := one_fresh (c0.dom p23 np26)
      have r1 := Ty.fz r1 c24
      have r7 := Ty.ex r7 c24
      have c0 := c0.trans c24.none
      obtain ⟨x30, hx30, hbe4⟩ := Mi.bnd hbe4
      refine e_appO r7 r25 (d28) (lst_nd r25) hx30 fun H34 F35 c33 r7 sa36 sb37 => ?_
      have r1 := Ty.fz r1 c33
      have r25 := Ty.chg r25 c33 d28.symm
      have c0 := c0.join c33 (fun a h => .inr (n9 a h))
      have n38 : ∀ a ∈ F35, H0 a = none := fresh_grow n9 n29 sb37
      obtain rfl := Option.some.inj hbe4
      exact ⟨x30, F35, c0, r1, r7, n38, hle4⟩
    obtain ⟨s5, F8, c0, r1, r7, n9, hle4⟩ := hp
    obtain rfl := Mi.forN_end hle4
    refine g_name (σ' := [some (.int d0), some v1, some (.ref D6), none, none, none, none]) rfl ?_
    refine q_for ?_
    refine w_iTup ?_
    refine c_val (val_var rfl) ?_
    obtain ⟨e39, he39, hm⟩ := Mi.bnd hm
    refine l_tup r1 (fun i σ' H' => ∃ (s40 : (List (List Int))) (y45 : Option V) (y46 : Option V) (v41 : V) (F43 : List Addr), σ' = [some (.int d0), some v1, some v41, y45, y46, none, none] ∧ Chg ([] : List Addr) H0 H' ∧ (yTupL (yTup (sCons yInt (sOne yInt)))).rep K H' [] v1 d1 ∧ (yOwn (yLst yInt)).rep K H' F43 v41 s40 ∧ (∀ a ∈ F43, H0 a = none) ∧ Mi.forN (Mi.m_joined_places_b2) s40 (List.drop i d1) = some e39) ⟨s5, none, none, (.ref D6), F8, rfl, c0, r1, r7, n9, he39⟩ (fun i σ' H' hp => by obtain ⟨s40, y45, y46, v41, F43, rfl, c0, r1, r42, n44, _⟩ := hp; exact r1) (fun i49 x48 u50 σ' H' hx47 r51 hp => ?_) (fun σ' H' hp => ?_)
    ·
      obtain ⟨s40, y45, y46, v41, F43, rfl, c0, r1, r42, n44, hle39⟩ := hp
      obtain ⟨_, hbe39, hle39⟩ := Mi.forN_go hle39 hx47
      unfold Mi.m_joined_places_b2 at hbe39
      refine g_tup2 r51 fun u52 u53 r54 r55 => ?_
      obtain ⟨_, rfl⟩ := r54
      obtain ⟨_, rfl⟩ := r55
      refine g_names (σ' := [some (.int d0), some v1, some v41, some (.int x48.1), some (.int x48.2), none, none]) rfl ?_
      obtain ⟨x56, hx56, hbe39⟩ := Mi.bnd hbe39
      obtain ⟨x57, hx57, hbe39⟩ := Mi.bnd hbe39
      obtain ⟨u58, tu59, kx60, ku61, ka62⟩ := itm_O r42 hx56
      refine q_drop (w_bm (c_val (ku61 (val_var rfl) (val_var rfl)) ⟨tu59, w_args (va_cons (val_var rfl) va_nil) ?_⟩))
      refine ka62 yInt_i hx57 fun H64 c63 r42 => ?_
      have r1 := Ty.fz r1 c63
      have c0 := c0.join c63 (fun a h => .inr (n44 a h))
      obtain ⟨x65, hx65, hbe39⟩ := Mi.bnd hbe39
      obtain ⟨x66, hx66, hbe39⟩ := Mi.bnd hbe39
      obtain ⟨u67, tu68, kx69, ku70, ka71⟩ := itm_O r42 hx65
      refine q_drop (w_bm (c_val (ku70 (val_var rfl) (val_var rfl)) ⟨tu68, w_args (va_cons (val_var rfl) va_nil) ?_⟩))
      refine ka71 yInt_i hx66 fun H73 c72 r42 => ?_
      have r1 := Ty.fz r1 c72
      have c0 := c0.join c72 (fun a h => .inr (n44 a h))
      refine w_nextJ ?_
      obtain rfl := Option.some.inj hbe39
      exact ⟨_, (some (.int x48.1)), (some (.int x48.2)), v41, F43, rfl, c0, r1, r42, n44, hle39⟩
    obtain ⟨s40, y45, y46, v41, F43, rfl, c0, r1, r42, n44, hle39⟩ := hp
    obtain rfl := Mi.forN_end hle39
    refine q_ret ?_
    refine w_cb ?_
    refine w_cons ?_
    refine w_lc ?_
    refine w_iList ?_
    refine c_val (val_var rfl) ?_
    obtain ⟨e74, he74, hm⟩ := Mi.bnd hm
    refine kc_lsg (K := K) (τ := (yTupL yInt)) (own_lsg r42) (fun D76 i H' => ∃ (s75 : (List (List Int))), Chg ([] : List Addr) H0 H' ∧ (yTupL (yTup (sCons yInt (sOne yInt)))).rep K H' [] v1 d1 ∧ (yOwn (yLst yInt)).rep K H' F43 v41 s40 ∧ (yLst (yTupL yInt)).rep K H' [D76] (.ref D76) s75 ∧ Dj F43 [D76] ∧ (∀ a ∈ [D76], H0 a = none) ∧ Mi.forN (Mi.m_joined_places_b3) s75 (List.drop i s40) = some e74) (fun D76 H82 np81 c80 r77 => ⟨([] : (List (List Int))), c0.trans c80.none, (Ty.fz r1 c80), (Ty.ex r42 c80), r77, Ty.nin r42 np81, one_fresh (c0.dom D76 np81), he74⟩) (fun D76 i H' hp => by obtain ⟨s75, c0, r1, r42, r77, d78, n79, _⟩ := hp; exact (own_lsg r42)) (fun D76 i85 x84 u87 F89 H86 hx83 r88 su90 hp => ?_) (fun D76 H' np81 hp => ?_)
    ·
      obtain ⟨s75, c0, r1, r42, r77, d78, n79, hle74⟩ := hp
      obtain ⟨_, hbe74, hle74⟩ := Mi.forN_go hle74 hx83
      unfold Mi.m_joined_places_b3 at hbe74
      have d93 : Dj F89 [D76] := Dj.sub (d78) su90
      have n94 : ∀ a ∈ F89, H0 a = none := fun a h => n44 a (su90 a h)
      refine g_name (σ' := [some (.int d0), some v1, some v41, y45, y46, none, some u87]) rfl ?_
      refine ⟨rfl, ?_⟩
      refine w_yes ?_
      refine iteT ?_
      refine w_cb ?_
      refine w_args (va_cons (val_var rfl) va_nil) ?_
      refine w_tupleL r88 fun v95 H96 c97 r98 => ?_
      have r1 := Ty.fz r1 c97
      have r42 := Ty.ex r42 c97
      have r88 := Ty.ex r88 c97
      have r77 := Ty.ex r77 c97
      have c0 := c0.trans c97.none
      obtain ⟨x99, hx99, hbe74⟩ := Mi.bnd hbe74
      refine e_app r77 r98 hx99 fun H101 c100 r77 => ?_
      have r1 := Ty.fz r1 c100
      have r42 := Ty.chg r42 c100 d78
      have r88 := Ty.chg r88 c100 d93
      have c0 := c0.join c100 (fun a h => .inr (n79 a h))
      obtain rfl := Option.some.inj hbe74
      exact ⟨x99, c0, r1, r42, r77, d78, n79, hle74⟩
    obtain ⟨s75, c0, r1, r42, r77, d78, n79, hle74⟩ := hp
    obtain rfl := Mi.forN_end hle74
    refine w_nil ?_
    refine w_tupleL r77 fun v102 H103 c104 r105 => ?_
    have r1 := Ty.fz r1 c104
    have r42 := Ty.ex r42 c104
    have r77 := Ty.ex r77 c104
    have c0 := c0.trans c104.none
    obtain rfl := Option.some.inj hm
    exact hQ _ _ c0 r105 
abbrev s_Chart_init : Stmt := inClass (topS 30) 0
abbrev N_Chart_init : List Str := ["self", "depths", "lanes", "tide", "harbours"]
theorem sc_Chart_init : FnScope ["self", "depths", "lanes", "tide", "harbours"] ["self", "depths", "lanes", "tide", "harbours"] (defScope s_Chart_init) := ⟨rfl, rfl, rfl, by decide +kernel, rfl, by decide +kernel, by decide +kernel⟩
def sp_Chart_init (K : PySem.W.Frag) (C_Chart : Addr) : Sp := fun vs H Q _ => ∃ (x0 dx0 : Addr) (v1 : V) (F1 : List Addr) (d1 : (List Int)) (v2 : V) (F2 : List Addr) (d2 : (List (Int × Int))) (v3 : V) (F3 : List Addr) (d3 : (List Int)) (v4 : V) (F4 : List Addr) (d4 : (List Int)) (r : (Int × (List Int) × (List (Int × Int)) × (List Int) × (List Int) × (List (List Int)))), vs = [.ref x0, v1, v2, v3, v4] ∧ (yPart C_Chart dx0 []).rep K H [x0] (.ref x0) [] ∧ (yLst yInt).rep K H F1 v1 d1 ∧ (yLst (yTup (sCons yInt (sOne yInt)))).rep K H F2 v2 d2 ∧ (yLst yInt).rep K H F3 v3 d3 ∧ (yLst yInt).rep K H F4 v4 d4 ∧ Dj [x0] F1 ∧ Dj [x0] F2 ∧ Dj [x0] F3 ∧ Dj [x0] F4 ∧ Mi.m_Chart_init d1 d2 d3 d4 = some r ∧ ∀ H', Chg [x0] H H' → (yObj C_Chart nm_Chart ty_Chart).rep K H' [] (.ref x0) r → Q .non H'
theorem ok_Chart_init (B : Bi mg) (CN : Cs K mg) {C_Chart : Addr} (T_Chart : Tx K mg C_Chart "Chart" nm_Chart) (C_good_depths : Cal P w K mg "good_depths" ["depths"] 2 (sp_good_depths K)) (C_good_lanes : Cal P w K mg "good_lanes" ["lanes", "size"] 1 (sp_good_lanes K)) (C_good_tide : Cal P w K mg "good_tide" ["tide"] 2 (sp_good_tide K)) (C_good_harbours : Cal P w K mg "good_harbours" ["harbours", "size"] 2 (sp_good_harbours K)) (C_ordered_lanes : Cal P w K mg "ordered_lanes" ["lanes"] 1 (sp_ordered_lanes K)) (C_joined_places : Cal P w K mg "joined_places" ["size", "lanes"] 1 (sp_joined_places K)) (D : DfnI K C_Chart "Chart.__init__" s_Chart_init (kw_Chart K) ) : CalI P w K mg C_Chart "Chart.__init__" s_Chart_init (kw_Chart K) ["self", "depths", "lanes", "tide", "harbours"] 3 (sp_Chart_init K C_Chart) := by
  obtain ⟨f, fd, F, g⟩ := D.ex
  refine ⟨f, fd, g, F, fun base => okD F sc_Chart_init (fun vs H Q E h => ?_) (fun cdv A outer s H0 vs Q E hr h => ?_)⟩
  · obtain ⟨x0, dx0, v1, F1, d1, v2, F2, d2, v3, F3, d3, v4, F4, d4, r, rfl, rs, r1, r2, r3, r4, dd0_1, dd0_2, dd0_3, dd0_4, hm, hQ⟩ := h; rfl
  ·
    obtain ⟨x0, dx0, v1, F1, d1, v2, F2, d2, v3, F3, d3, v4, F4, d4, r, rfl, rs, r1, r2, r3, r4, dd0_1, dd0_2, dd0_3, dd0_4, hm, hQ⟩ := h
    refine ⟨_, pss_cons (ps_if (pt_not (pt_val (pe_cc C_good_depths hr (pa_cons (pv 1) pa_nil)))) (pss_cons ps_never pss_nil) (pss_nil))
      (pss_cons (ps_if (pt_not (pt_val (pe_cc C_good_lanes hr (pa_cons (pv 2) (pa_cons (pe_callB (cl_len (K := K)) (by rfl) B.len PySem.boot_len (pa_cons (pv 1) pa_nil)) pa_nil))))) (pss_cons ps_never pss_nil) (pss_nil))
      (pss_cons (ps_if (pt_not (pt_val (pe_cc C_good_tide hr (pa_cons (pv 3) pa_nil)))) (pss_cons ps_never pss_nil) (pss_nil))
      (pss_cons (ps_if (pt_not (pt_val (pe_cc C_good_harbours hr (pa_cons (pv 4) (pa_cons (pe_callB (cl_len (K := K)) (by rfl) B.len PySem.boot_len (pa_cons (pv 1) pa_nil)) pa_nil))))) (pss_cons ps_never pss_nil) (pss_nil))
      (pss_cons (ps_fld (pv 0) (pe_callB (cl_len (K := K)) (by rfl) B.len PySem.boot_len (pa_cons (pv 1) pa_nil)) rfl)
      (pss_cons (ps_fld (pv 0) (pe_callTy (cl_tuple (K := K)) (by rfl) B.tuple (by decide +kernel) (pa_cons (pv 1) pa_nil)) rfl)
      (pss_cons (ps_fld (pv 0) (pe_cc C_ordered_lanes hr (pa_cons (pv 2) pa_nil)) rfl)
      (pss_cons (ps_fld (pv 0) (pe_callTy (cl_tuple (K := K)) (by rfl) B.tuple (by decide +kernel) (pa_cons (pv 3) pa_nil)) rfl)
      (pss_cons (ps_fld (pv 0) (pe_callTy (cl_tuple (K := K)) (by rfl) B.tuple (by decide +kernel) (pa_cons (pe_callB (cl_sortedL (K := K)) (by rfl) B.sorted (by decide +kernel) (pa_cons (pv 4) pa_nil)) pa_nil)) rfl)
      (pss_cons (ps_fld (pv 0) (pe_cc C_joined_places hr (pa_cons (pe_fldk (K := K) (pv 0) (by rfl)) (pa_cons (pe_fldk (K := K) (pv 0) (by rfl)) pa_nil))) rfl)
      (pss_nil)))))))))), ?_⟩
    have c0 : Chg ([x0]) H0 H0 := Chg.refl H0
    unfold Mi.m_Chart_init at hm
    refine q_ifS ?_
    refine w_not ?_
    refine w_B ?_
    refine w_call ?_
    refine w_args (va_cons (val_var rfl) va_nil) ?_
    obtain ⟨q6, hq6, hm⟩ := Mi.bnd hm
    refine ⟨v1, F1, d1, q6, rfl, r1, hq6, fun H8 c7  => ?_⟩
    have rs := Ty.ex rs c7
    have r1 := Ty.ex r1 c7
    have r2 := Ty.ex r2 c7
    have r3 := Ty.ex r3 c7
    have r4 := Ty.ex r4 c7
    have c0 := c0.trans c7.none
    refine ⟨_, rfl, ?_⟩
    refine c_if (fun hb => ?_) (fun hb => ?_)
    ·
      replace hm := Mi.ifT hb hm
      cases hm
    replace hm := Mi.ifF hb hm
    refine w_fall ?_
    refine q_ifS ?_
    refine w_not ?_
    refine w_B ?_
    refine w_call ?_
    refine w_args (va_cons (val_var rfl) (va_cons (val_lenL r1 (val_var rfl)) va_nil)) ?_
    obtain ⟨q9, hq9, hm⟩ := Mi.bnd hm
    refine ⟨v2, F2, d2, (d1.length : Int), q9, rfl, r2, hq9, fun H11 c10  => ?_⟩
    have rs := Ty.ex rs c10
    have r1 := Ty.ex r1 c10
    have r2 := Ty.ex r2 c10
    have r3 := Ty.ex r3 c10
    have r4 := Ty.ex r4 c10
    have c0 := c0.trans c10.none
    refine ⟨_, rfl, ?_⟩
    refine c_if (fun hb => ?_) (fun hb => ?_)
    ·
      replace hm := Mi.ifT hb hm
      cases hm
    replace hm := Mi.ifF hb hm
    refine w_fall ?_
    refine q_ifS ?_
    refine w_not ?_
    refine w_B ?_
    refine w_call ?_
    refine w_args (va_cons (val_var rfl) va_nil) ?_
    obtain ⟨q12, hq12, hm⟩ := Mi.bnd hm
    refine ⟨v3, F3, d3, q12, rfl, r3, hq12, fun H14 c13  => ?_⟩
    have rs := Ty.ex rs c13
    have r1 := Ty.ex r1 c13
    have r2 := Ty.ex r2 c13
    have r3 := Ty.ex r3 c13
    have r4 := Ty.ex r4 c13
    have c0 := c0.trans c13.none
    refine ⟨_, rfl, ?_⟩
    refine c_if (fun hb => ?_) (fun hb => ?_)
    ·
      replace hm := Mi.ifT hb hm
      cases hm
    replace hm := Mi.ifF hb hm
    refine w_fall ?_
    refine q_ifS ?_
    refine w_not ?_
    refine w_B ?_
    refine w_call ?_
    refine w_args (va_cons (val_var rfl) (va_cons (val_lenL r1 (val_var rfl)) va_nil)) ?_
    obtain ⟨q15, hq15, hm⟩ := Mi.bnd hm
    refine ⟨v4, F4, d4, (d1.length : Int), q15, rfl, r4, hq15, fun H17 c16  => ?_⟩
    have rs := Ty.ex rs c16
    have r1 := Ty.ex r1 c16
    have r2 := Ty.ex r2 c16
    have r3 := Ty.ex r3 c16
    have r4 := Ty.ex r4 c16
    have c0 := c0.trans c16.none
    refine ⟨_, rfl, ?_⟩
    refine c_if (fun hb => ?_) (fun hb => ?_)
    ·
      replace hm := Mi.ifT hb hm
      cases hm
    replace hm := Mi.ifF hb hm
    refine w_fall ?_
    refine q_fld ?_
    refine c_val (val_lenL r1 (val_var rfl)) ?_
    refine c_val (val_var rfl) ?_
    refine m_fldP rs T_Chart.cls (T_Chart.na "size" (by decide +kernel)) (by decide +kernel) rfl (by decide) rfl fun H19 c18 rs => ?_
    have r1 := Ty.chg r1 c18 dd0_1.symm
    have r2 := Ty.chg r2 c18 dd0_2.symm
    have r3 := Ty.chg r3 c18 dd0_3.symm
    have r4 := Ty.chg r4 c18 dd0_4.symm
    have c0 := c0.join c18 (fun a h => .inl (h))
    have rs : (yPart C_Chart dx0 (["size"] : List Str)).rep K _ [x0] (.ref x0) [(.int (d1.length : Int))] := rs
    refine q_fld ?_
    refine w_cb ?_
    refine w_args (va_cons (val_var rfl) va_nil) ?_
    refine w_tupleL r1 fun v20 H21 c22 r23 => ?_
    have rs := Ty.ex rs c22
    have r1 := Ty.ex r1 c22
    have r2 := Ty.ex r2 c22
    have r3 := Ty.ex r3 c22
    have r4 := Ty.ex r4 c22
    have c0 := c0.trans c22.none
    refine c_val (val_var rfl) ?_
    refine m_fldP rs T_Chart.cls (T_Chart.na "depths" (by decide +kernel)) (by decide +kernel) rfl (by decide) rfl fun H25 c24 rs => ?_
    have r1 := Ty.chg r1 c24 dd0_1.symm
    have r2 := Ty.chg r2 c24 dd0_2.symm
    have r3 := Ty.chg r3 c24 dd0_3.symm
    have r4 := Ty.chg r4 c24 dd0_4.symm
    have r23 := Ty.fz r23 c24
    have c0 := c0.join c24 (fun a h => .inl (h))
    have rs : (yPart C_Chart dx0 (["size", "depths"] : List Str)).rep K _ [x0] (.ref x0) [(.int (d1.length : Int)), v20] := rs
    refine q_fld ?_
    refine w_call ?_
    refine w_args (va_cons (val_var rfl) va_nil) ?_
    obtain ⟨q26, hq26, hm⟩ := Mi.bnd hm
    refine ⟨v2, F2, d2, q26, rfl, r2, hq26, fun v29 H28 c27 r30  => ?_⟩
    have rs := Ty.ex rs c27
    have r1 := Ty.ex r1 c27
    have r2 := Ty.ex r2 c27
    have r3 := Ty.ex r3 c27
    have r4 := Ty.ex r4 c27
    have r23 := Ty.fz r23 c27
    have c0 := c0.trans c27.none
    refine c_val (val_var rfl) ?_
    refine m_fldP rs T_Chart.cls (T_Chart.na "lanes" (by decide +kernel)) (by decide +kernel) rfl (by decide) rfl fun H32 c31 rs => ?_
    have r1 := Ty.chg r1 c31 dd0_1.symm
    have r2 := Ty.chg r2 c31 dd0_2.symm
    have r3 := Ty.chg r3 c31 dd0_3.symm
    have r4 := Ty.chg r4 c31 dd0_4.symm
    have r23 := Ty.fz r23 c31
    have r30 := Ty.fz r30 c31
    have c0 := c0.join c31 (fun a h => .inl (h))
    have rs : (yPart C_Chart dx0 (["size", "depths", "lanes"] : List Str)).rep K _ [x0] (.ref x0) [(.int (d1.length : Int)), v20, v29] := rs
    refine q_fld ?_
    refine w_cb ?_
    refine w_args (va_cons (val_var rfl) va_nil) ?_
    refine w_tupleL r3 fun v33 H34 c35 r36 => ?_
    have rs := Ty.ex rs c35
    have r1 := Ty.ex r1 c35
    have r2 := Ty.ex r2 c35
    have r3 := Ty.ex r3 c35
    have r4 := Ty.ex r4 c35
    have r23 := Ty.fz r23 c35
    have r30 := Ty.fz r30 c35
    have c0 := c0.trans c35.none
    refine c_val (val_var rfl) ?_
    refine m_fldP rs T_Chart.cls (T_Chart.na "tide" (by decide +kernel)) (by decide +kernel) rfl (by decide) rfl fun H38 c37 rs => ?_
    have r1 := Ty.chg r1 c37 dd0_1.symm
    have r2 := Ty.chg r2 c37 dd0_2.symm
    have r3 := Ty.chg r3 c37 dd0_3.symm
    have r4 := Ty.chg r4 c37 dd0_4.symm
    have r23 := Ty.fz r23 c37
    have r30 := Ty.fz r30 c37
    have r36 := Ty.fz r36 c37
    have c0 := c0.join c37 (fun a h => .inl (h))
    have rs : (yPart C_Chart dx0 (["size", "depths", "lanes", "tide"] : List Str)).rep K _ [x0] (.ref x0) [(.int (d1.length : Int)), v20, v29, v33] := rs
    refine q_fld ?_
    refine w_cb ?_
    refine w_cons ?_
    refine w_cb ?_
    refine w_args (va_cons (val_var rfl) va_nil) ?_
    refine w_sortedL r4 fun p39 H43 np42 c40 r41 => ?_
    have d44 : Dj [x0] [p39] := Ty.nin rs np42
    have d45 : Dj F1 [p39] := Ty.nin r1 np42
    have d46 : Dj F2 [p39] := Ty.nin r2 np42
    have d47 : Dj F3 [p39] := Ty.nin r3 np42
    have d48 : Dj F4 [p39] := Ty.nin r4 np42
    have n49 : ∀ a ∈ [p39], H0 a = none := one_fresh (c0.dom p39 np42)
    have rs := Ty.ex rs c40
    have r1 := Ty.ex r1 c40
    have r2 := Ty.ex r2 c40
    have r3 := Ty.ex r3 c40
    have r4 := Ty.ex r4 c40
    have r23 := Ty.fz r23 c40
    have r30 := Ty.fz r30 c40
    have r36 := Ty.fz r36 c40
    have c0 := c0.trans c40.none
    refine w_nil ?_
    refine w_tupleL r41 fun v50 H51 c52 r53 => ?_
    have rs := Ty.ex rs c52
    have r1 := Ty.ex r1 c52
    have r2 := Ty.ex r2 c52
    have r3 := Ty.ex r3 c52
    have r4 := Ty.ex r4 c52
    have r23 := Ty.fz r23 c52
    have r30 := Ty.fz r30 c52
    have r36 := Ty.fz r36 c52
    have r41 := Ty.ex r41 c52
    have c0 := c0.trans c52.none
    refine c_val (val_var rfl) ?_
    refine m_fldP rs T_Chart.cls (T_Chart.na "harbours" (by decide +kernel)) (by decide +kernel) rfl (by decide) rfl fun H55 c54 rs => ?_
    have r1 := Ty.chg r1 c54 dd0_1.symm
    have r2 := Ty.chg r2 c54 dd0_2.symm
    have r3 := Ty.chg r3 c54 dd0_3.symm
    have r4 := Ty.chg r4 c54 dd0_4.symm
    have r23 := Ty.fz r23 c54
    have r30 := Ty.fz r30 c54
    have r36 := Ty.fz r36 c54
    have r53 := Ty.fz r53 c54
    have c0 := c0.join c54 (fun a h => .inl (h))
    have rs : (yPart C_Chart dx0 (["size", "depths", "lanes", "tide", "harbours"] : List Str)).rep K _ [x0] (.ref x0) [(.int (d1.length : Int)), v20, v29, v33, v50] := rs
    refine q_fld ?_
    refine w_call ?_
    refine w_args (va_cons (fld_part (n := 0) (by decide +kernel) rfl rfl T_Chart.cls (T_Chart.na "size" (by decide +kernel)) rs (val_var rfl)) (va_cons (fld_part (n := 2) (by decide +kernel) rfl rfl T_Chart.cls (T_Chart.na "lanes" (by decide +kernel)) rs (val_var rfl)) va_nil)) ?_
    obtain ⟨q56, hq56, hm⟩ := Mi.bnd hm
    refine ⟨(d1.length : Int), v29, q26, q56, rfl, r30, hq56, fun v59 H58 c57 r60  => ?_⟩
    have rs := Ty.ex rs c57
    have r1 := Ty.ex r1 c57
    have r2 := Ty.ex r2 c57
    have r3 := Ty.ex r3 c57
    have r4 := Ty.ex r4 c57
    have r23 := Ty.fz r23 c57
    have r30 := Ty.fz r30 c57
    have r36 := Ty.fz r36 c57
    have r53 := Ty.fz r53 c57
    have c0 := c0.trans c57.none
    refine c_val (val_var rfl) ?_
    refine m_fldE (ts := ty_Chart) (d := ((d1.length : Int), d1, q26, d3, (Mi.sortI d4), q56)) rs T_Chart.cls (T_Chart.na "joined" (by decide +kernel)) (by decide +kernel) rfl (by decide) rfl ⟨_, _, _, _, rfl, rfl, yInt_i, ⟨_, _, _, _, rfl, rfl, r23, ⟨_, _, _, _, rfl, rfl, r30, ⟨_, _, _, _, rfl, rfl, r36, ⟨_, _, _, _, rfl, rfl, r53, ⟨_, rfl, r60⟩⟩⟩⟩⟩⟩ fun H62 c61 rs => ?_
    have r1 := Ty.chg r1 c61 dd0_1.symm
    have r2 := Ty.chg r2 c61 dd0_2.symm
    have r3 := Ty.chg r3 c61 dd0_3.symm
    have r4 := Ty.chg r4 c61 dd0_4.symm
    have r23 := Ty.fz r23 c61
    have r30 := Ty.fz r30 c61
    have r36 := Ty.fz r36 c61
    have r53 := Ty.fz r53 c61
    have r60 := Ty.fz r60 c61
    have c0 := c0.join c61 (fun a h => .inl (h))
    refine w_next ?_
    obtain rfl := Option.some.inj hm
    exact hQ _ c0 rs
abbrev s_Chart_water : Stmt := inClass (topS 30) 1
abbrev N_Chart_water : List Str := ["self", "place", "hour"]
theorem sc_Chart_water : FnScope ["self", "place", "hour"] ["self", "place", "hour"] (defScope s_Chart_water) := ⟨rfl, rfl, rfl, by decide +kernel, rfl, by decide +kernel, by decide +kernel⟩
def sp_Chart_water (K : PySem.W.Frag) (C_Chart : Addr) : Sp := fun vs H Q _ => ∃ (v0 : V) (d0 : (Int × (List Int) × (List (Int × Int)) × (List Int) × (List Int) × (List (List Int)))) (d1 : Int) (d2 : Int) (r : Int), vs = [v0, (.int d1), (.int d2)] ∧ (yObj C_Chart nm_Chart ty_Chart).rep K H [] v0 d0 ∧ Mi.m_Chart_water d0 d1 d2 = some r ∧ ∀ H', Chg ([]) H H' → Q (.int r) H'
theorem ok_Chart_water (B : Bi mg) (CN : Cs K mg) {C_Chart : Addr} (T_Chart : Tx K mg C_Chart "Chart" nm_Chart) (D : DfnM K C_Chart "water" "Chart.water" s_Chart_water) : CalM P w K mg C_Chart "water" ["self", "place", "hour"] 1 (sp_Chart_water K C_Chart) := by
  obtain ⟨f, fd, F, g⟩ := D.ex
  refine ⟨f, fd, g, bindsF F (fun _ _ _ _ _ _ us hl => match us, hl with | [_, _, _], _ => rfl), fun base => F.ok sc_Chart_water (fun vs H Q E h => ?_) (fun cdv A outer s H0 vs Q E hr h => ?_)⟩
  · obtain ⟨v0, d0, d1, d2, r, rfl, r0, hm, hQ⟩ := h; rfl
  ·
    obtain ⟨v0, d0, d1, d2, r, rfl, r0, hm, hQ⟩ := h
    refine ⟨_, pss_cons (ps_ret (pe_op op_add (pe_ix (ix_t (K := K)) (pe_fldk (K := K) (pv 0) (by rfl)) (pv 1) (fun _ _ => rfl)) (pe_ix (ix_t (K := K)) (pe_fldk (K := K) (pv 0) (by rfl)) (pe_op op_mod (pv 2) (pe_callB (cl_len (K := K)) (by rfl) B.len PySem.boot_len (pa_cons (pe_fldk (K := K) (pv 0) (by rfl)) pa_nil))) (fun _ _ => rfl)))) pss_nil, ?_⟩
    have c0 : Chg ([] : List Addr) H0 H0 := Chg.refl H0
    unfold Mi.m_Chart_water at hm
    refine q_ret ?_
    obtain ⟨u4, r5, kx6, ku7⟩ := fld_obj (n := 1) (f := "depths") (atS at0) (by decide +kernel) rfl T_Chart.cls (T_Chart.na "depths" (by decide +kernel)) r0
    obtain ⟨x8, hx8, hm⟩ := Mi.bnd hm
    obtain ⟨u9, r10, kx11, ku12⟩ := fld_obj (n := 3) (f := "tide") (atS (atS (atS at0))) (by decide +kernel) rfl T_Chart.cls (T_Chart.na "tide" (by decide +kernel)) r0
    obtain ⟨u13, r14, kx15, ku16⟩ := fld_obj (n := 3) (f := "tide") (atS (atS (atS at0))) (by decide +kernel) rfl T_Chart.cls (T_Chart.na "tide" (by decide +kernel)) r0
    obtain ⟨x17, hx17, hm⟩ := Mi.bnd hm
    obtain ⟨x18, hx18, hm⟩ := Mi.bnd hm
    refine c_val (val_add (itm_TI r5 hx8 (ku7 (val_var rfl)) (val_var rfl)) (itm_TI r10 hx18 (ku12 (val_var rfl)) (val_mod (val_var rfl) (val_lenT r14 (ku16 (val_var rfl))) hx17))) ?_
    obtain rfl := Option.some.inj hm
    exact hQ _ c0 
abbrev s_Chart_neighbours : Stmt := inClass (topS 30) 3
abbrev N_Chart_neighbours : List Str := ["self", "place"]
theorem sc_Chart_neighbours : FnScope ["self", "place"] ["self", "place"] (defScope s_Chart_neighbours) := ⟨rfl, rfl, rfl, by decide +kernel, rfl, by decide +kernel, by decide +kernel⟩
def sp_Chart_neighbours (K : PySem.W.Frag) (C_Chart : Addr) : Sp := fun vs H Q _ => ∃ (v0 : V) (d0 : (Int × (List Int) × (List (Int × Int)) × (List Int) × (List Int) × (List (List Int)))) (d1 : Int) (r : (List Int)), vs = [v0, (.int d1)] ∧ (yObj C_Chart nm_Chart ty_Chart).rep K H [] v0 d0 ∧ Mi.m_Chart_neighbours d0 d1 = some r ∧ ∀ v H' F, Chg ([]) H H' → (yLst yInt).rep K H' F v r → (∀ a ∈ F, H a = none) → Q v H'
theorem ok_Chart_neighbours (B : Bi mg) (CN : Cs K mg) {C_Chart : Addr} (T_Chart : Tx K mg C_Chart "Chart" nm_Chart) (D : DfnM K C_Chart "neighbours" "Chart.neighbours" s_Chart_neighbours) : CalM P w K mg C_Chart "neighbours" ["self", "place"] 1 (sp_Chart_neighbours K C_Chart) := by
  obtain ⟨f, fd, F, g⟩ := D.ex
  refine ⟨f, fd, g, bindsF F (fun _ _ _ _ _ _ us hl => match us, hl with | [_, _], _ => rfl), fun base => F.ok sc_Chart_neighbours (fun vs H Q E h => ?_) (fun cdv A outer s H0 vs Q E hr h => ?_)⟩
  · obtain ⟨v0, d0, d1, r, rfl, r0, hm, hQ⟩ := h; rfl
  ·
    obtain ⟨v0, d0, d1, r, rfl, r0, hm, hQ⟩ := h
    refine ⟨_, pss_cons (ps_ret (pe_callTy (cl_list (K := K)) (by rfl) B.list (by decide +kernel) (pa_cons (pe_ix (ix_t (K := K)) (pe_fldk (K := K) (pv 0) (by rfl)) (pv 1) (fun _ _ => rfl)) pa_nil))) pss_nil, ?_⟩
    have c0 : Chg ([] : List Addr) H0 H0 := Chg.refl H0
    unfold Mi.m_Chart_neighbours at hm
    refine q_ret ?_
    refine w_cb ?_
    obtain ⟨u3, r4, kx5, ku6⟩ := fld_obj (n := 5) (f := "joined") (atS (atS (atS (atS (atS at1))))) (by decide +kernel) rfl T_Chart.cls (T_Chart.na "joined" (by decide +kernel)) r0
    obtain ⟨x7, hx7, hm⟩ := Mi.bnd hm
    obtain ⟨u8, r9, ku10⟩ := itm_T r4 hx7
    refine w_args (va_cons (ku10 (ku6 (val_var rfl)) (val_var rfl)) va_nil) ?_
    refine w_listT r9 fun p11 H15 np14 c12 r13 => ?_
    have n16 : ∀ a ∈ [p11], H0 a = none := one_fresh (c0.dom p11 np14)
    have r0 := Ty.fz r0 c12
    have r9 := Ty.fz r9 c12
    have c0 := c0.trans c12.none
    obtain rfl := Option.some.inj hm
    exact hQ _ _ _ c0 r13 n16 
abbrev s_next_ring : Stmt := topS 10
abbrev N_next_ring : List Str := ["chart", "wet", "ring", "found", "place", "other"]
theorem sc_next_ring : FnScope ["chart", "wet", "ring", "found", "place", "other"] ["chart", "wet", "ring"] (defScope s_next_ring) := ⟨rfl, rfl, rfl, by decide +kernel, rfl, by decide +kernel, by decide +kernel⟩
def sp_next_ring (K : PySem.W.Frag) (C_Chart : Addr) : Sp := fun vs H Q _ => ∃ (v0 : V) (d0 : (Int × (List Int) × (List (Int × Int)) × (List Int) × (List Int) × (List (List Int)))) (v1 : V) (F1 : List Addr) (d1 : (List Bool)) (v2 : V) (F2 : List Addr) (d2 : (List Int)) (r : (List Int)), vs = [v0, v1, v2] ∧ (yObj C_Chart nm_Chart ty_Chart).rep K H [] v0 d0 ∧ (yLst yBool).rep K H F1 v1 d1 ∧ (yLst yInt).rep K H F2 v2 d2 ∧ Mi.m_next_ring d0 d1 d2 = some r ∧ ∀ v H' F, Chg ([]) H H' → (yLst yInt).rep K H' F v r → (∀ a ∈ F, H a = none) → Q v H'
theorem ok_next_ring (B : Bi mg) (CN : Cs K mg) (D : Dfn K mg "next_ring" s_next_ring) {C_Chart : Addr} (T_Chart : Tx K mg C_Chart "Chart" nm_Chart) (M_Chart_neighbours : CalM P w K mg C_Chart "neighbours" ["self", "place"] 1 (sp_Chart_neighbours K C_Chart)) : Cal P w K mg "next_ring" ["chart", "wet", "ring"] 2 (sp_next_ring K C_Chart) := by
  obtain ⟨f, fd, F, g⟩ := D.ex
  refine ⟨f, fd, g, F.kp, bindsF F (fun _ _ _ _ _ _ us hl => match us, hl with | [_, _, _], _ => rfl), fun base => F.ok sc_next_ring (fun vs H Q E h => ?_) (fun cdv A outer s H0 vs Q E hr h => ?_)⟩
  · obtain ⟨v0, d0, v1, F1, d1, v2, F2, d2, r, rfl, r0, r1, r2, hm, hQ⟩ := h; rfl
  ·
    obtain ⟨v0, d0, v1, F1, d1, v2, F2, d2, r, rfl, r0, r1, r2, hm, hQ⟩ := h
    obtain ⟨fM_Chart_neighbours, fdM_Chart_neighbours, hM_Chart_neighbours, bM_Chart_neighbours, OM_Chart_neighbours⟩ := M_Chart_neighbours.ex
    refine ⟨_, pss_cons (ps_set (i := 3) sc_next_ring.nd rfl (.inl rfl) (pe_callTy0 (cl_set0 (w := w)) (by rfl) B.set (by decide +kernel)))
      (pss_cons (ps_for PassesOwn.never rfl (pi_list (pv 2)) (pg_name (i := 4) sc_next_ring.nd rfl (.inl rfl)) (pss_cons (ps_for PassesOwn.never rfl (pi_list (pe_meth (pv 0) T_Chart.cls hM_Chart_neighbours (OM_Chart_neighbours base) (hr.mono (by decide)) (fun s us _ hl => by rw [List.append_nil] at hl ⊢; exact bM_Chart_neighbours s us hl) .nil pass0 (pa_cons (pv 4) pa_nil))) (pg_name (i := 5) sc_next_ring.nd rfl (.inl rfl)) (pss_cons (ps_if (pt_val (pe_ix (ix_l (K := K)) (pv 1) (pv 5) (fun _ _ => rfl))) (pss_cons (ps_expr (pe_sadd (pv 3) (pa_cons (pv 5) pa_nil)))
      (pss_nil)) (pss_nil))
      (pss_nil)))
      (pss_nil)))
      (pss_cons (ps_ret (pe_callB (cl_sortedSet (w := w) rfl) (by rfl) B.sorted (by decide +kernel) (pa_cons (pv 3) pa_nil))) pss_nil)), ?_⟩
    have c0 : Chg ([] : List Addr) H0 H0 := Chg.refl H0
    unfold Mi.m_next_ring at hm
    refine q_asg ?_
    refine w_cb ?_
    refine w_nil ?_
    refine w_set0 (K := K) (w := w) fun p4 H8 np7 c5 r6 => ?_
    have d9 : Dj F1 [p4] := Ty.nin r1 np7
    have d10 : Dj F2 [p4] := Ty.nin r2 np7
    have n11 : ∀ a ∈ [p4], H0 a = none := one_fresh (c0.dom p4 np7)
    have r0 := Ty.fz r0 c5
    have r1 := Ty.ex r1 c5
    have r2 := Ty.ex r2 c5
    have c0 := c0.trans c5.none
    refine g_name (σ' := [some v0, some v1, some v2, some (.ref p4), none, none]) rfl ?_
    refine q_for ?_
    refine w_iList ?_
    refine c_val (val_var rfl) ?_
    obtain ⟨e12, he12, hm⟩ := Mi.bnd hm
    refine l_lst r2 (fun i σ' H' => ∃ (s13 : (List Int)) (y14 : Option V) (y15 : Option V), σ' = [some v0, some v1, some v2, some (.ref p4), y14, y15] ∧ Chg ([] : List Addr) H0 H' ∧ (yObj C_Chart nm_Chart ty_Chart).rep K H' [] v0 d0 ∧ (yLst yBool).rep K H' F1 v1 d1 ∧ (yLst yInt).rep K H' F2 v2 d2 ∧ (ySet w).rep K H' [p4] (.ref p4) s13 ∧ Mi.forN (Mi.m_next_ring_b1 d0 d1) s13 (List.drop i d2) = some e12) ⟨([] : List Int), none, none, rfl, c0, r0, r1, r2, r6, he12⟩ (fun i σ' H' hp => by obtain ⟨s13, y14, y15, rfl, c0, r0, r1, r2, r6, _⟩ := hp; exact r2) (fun i18 x17 u19 σ' H' hx16 r20 hp => ?_) (fun σ' H' hp => ?_)
    ·
      obtain ⟨s13, y14, y15, rfl, c0, r0, r1, r2, r6, hle12⟩ := hp
      obtain ⟨_, hbe12, hle12⟩ := Mi.forN_go hle12 hx16
      unfold Mi.m_next_ring_b1 at hbe12
      obtain ⟨_, rfl⟩ := r20
      refine g_name (σ' := [some v0, some v1, some v2, some (.ref p4), some (.int x17), y15]) rfl ?_
      refine q_for ?_
      refine w_iList ?_
      refine w_meth ?_
      refine c_val (val_var rfl) ?_
      refine meth_obj r0 (by decide +kernel) ?_
      refine w_args (va_cons (val_var rfl) va_nil) ?_
      obtain ⟨q21, hq21, hbe12⟩ := Mi.bnd hbe12
      refine ⟨v0, d0, x17, q21, rfl, r0, hq21, fun v24 H23 F26 c22 r25 fr27  => ?_⟩
      have d28 : Dj F1 F26 := Ty.fresh r1 fr27
      have d29 : Dj F2 F26 := Ty.fresh r2 fr27
      have d30 : Dj [p4] F26 := Ty.fresh r6 fr27
      have n31 : ∀ a ∈ F26, H0 a = none := fun a h => c0.dom a (fr27 a h)
      have r0 := Ty.fz r0 c22
      have r1 := Ty.ex r1 c22
      have r2 := Ty.ex r2 c22
      have r6 := Ty.ex r6 c22
      have c0 := c0.trans c22.none
      obtain ⟨e32, he32, hbe12⟩ := Mi.bnd hbe12
      refine l_lst r25 (fun i σ' H' => ∃ (s33 : (List Int)) (y34 : Option V), σ' = [some v0, some v1, some v2, some (.ref p4), some (.int x17), y34] ∧ Chg ([] : List Addr) H0 H' ∧ (yObj C_Chart nm_Chart ty_Chart).rep K H' [] v0 d0 ∧ (yLst yBool).rep K H' F1 v1 d1 ∧ (yLst yInt).rep K H' F2 v2 d2 ∧ (ySet w).rep K H' [p4] (.ref p4) s33 ∧ (yLst yInt).rep K H' F26 v24 q21 ∧ Mi.forN (Mi.m_next_ring_b2 d1) s33 (List.drop i q21) = some e32) ⟨s13, y15, rfl, c0, r0, r1, r2, r6, r25, he32⟩ (fun i σ' H' hp => by obtain ⟨s33, y34, rfl, c0, r0, r1, r2, r6, r25, _⟩ := hp; exact r25) (fun i37 x36 u38 σ' H' hx35 r39 hp => ?_) (fun σ' H' hp => ?_)
      ·
        obtain ⟨s33, y34, rfl, c0, r0, r1, r2, r6, r25, hle32⟩ := hp
        obtain ⟨_, hbe32, hle32⟩ := Mi.forN_go hle32 hx35
        unfold Mi.m_next_ring_b2 at hbe32
        obtain ⟨_, rfl⟩ := r39
        refine g_name (σ' := [some v0, some v1, some v2, some (.ref p4), some (.int x17), some (.int x36)]) rfl ?_
        obtain ⟨s40, hs40, hbe32⟩ := Mi.bnd hbe32
        refine s_join (R := fun σ' H' => σ' = [some v0, some v1, some v2, some (.ref p4), some (.int x17), some (.int x36)] ∧ Chg ([] : List Addr) H0 H' ∧ (yObj C_Chart nm_Chart ty_Chart).rep K H' [] v0 d0 ∧ (yLst yBool).rep K H' F1 v1 d1 ∧ (yLst yInt).rep K H' F2 v2 d2 ∧ (ySet w).rep K H' [p4] (.ref p4) s40 ∧ (yLst yInt).rep K H' F26 v24 q21) (fun nx kx => ?_) (fun σ' H' hj => ?_)
        ·
          obtain ⟨x41, hx41, hs40⟩ := Mi.bnd hs40
          obtain ⟨u42, r43, ku44⟩ := itm_L r1 hx41
          obtain ⟨_, rfl⟩ := r43
          refine s_if (ans_B (ku44 (val_var rfl) (val_var rfl))) (fun hb => ?_) (fun hb => ?_)
          ·
            replace hs40 := Mi.ifT hb hs40
            refine q_drop (w_sadd (c_val (val_var rfl) ⟨tyv_set r6, ?_⟩))
            refine w_args (va_cons (val_var rfl) va_nil) ?_
            obtain ⟨x45, hx45, hs40⟩ := Mi.bnd hs40
            refine m_sadd r6 hx45 fun H47 c46 r6 => ?_
            have r0 := Ty.fz r0 c46
            have r1 := Ty.chg r1 c46 d9
            have r2 := Ty.chg r2 c46 d10
            have r25 := Ty.chg r25 c46 d30.symm
            have c0 := c0.join c46 (fun a h => .inr (n11 a h))
            refine w_nextJ ?_
            obtain rfl := Option.some.inj hs40
            exact kx _ _ ⟨rfl, c0, r0, r1, r2, r6, r25⟩
          ·
            replace hs40 := Mi.ifF hb hs40
            refine w_nextJ ?_
            obtain rfl := Option.some.inj hs40
            exact kx _ _ ⟨rfl, c0, r0, r1, r2, r6, r25⟩
        obtain ⟨rfl, c0, r0, r1, r2, r6, r25⟩ := hj
        refine w_nextJ ?_
        obtain rfl := Option.some.inj hbe32
        exact ⟨_, (some (.int x36)), rfl, c0, r0, r1, r2, r6, r25, hle32⟩
      obtain ⟨s33, y34, rfl, c0, r0, r1, r2, r6, r25, hle32⟩ := hp
      obtain rfl := Mi.forN_end hle32
      refine w_nextJ ?_
      obtain rfl := Option.some.inj hbe12
      exact ⟨_, (some (.int x17)), y34, rfl, c0, r0, r1, r2, r6, hle12⟩
    obtain ⟨s13, y14, y15, rfl, c0, r0, r1, r2, r6, hle12⟩ := hp
    obtain rfl := Mi.forN_end hle12
    refine q_ret ?_
    refine w_cb ?_
    refine w_args (va_cons (val_var rfl) va_nil) ?_
    obtain ⟨z48, hz48, hm⟩ := Mi.bnd hm
    refine w_sortedS r6 hz48 fun p49 H53 np52 c50 r51 => ?_
    have d54 : Dj F1 [p49] := Ty.nin r1 np52
    have d55 : Dj F2 [p49] := Ty.nin r2 np52
    have d56 : Dj [p4] [p49] := Ty.nin r6 np52
    have n57 : ∀ a ∈ [p49], H0 a = none := one_fresh (c0.dom p49 np52)
    have r0 := Ty.fz r0 c50
    have r1 := Ty.ex r1 c50
    have r2 := Ty.ex r2 c50
    have r6 := Ty.ex r6 c50
    have c0 := c0.trans c50.none
    obtain rfl := Option.some.inj hm
    exact hQ _ _ _ c0 r51 n57 
abbrev s_least_lanes : Stmt := topS 11
abbrev N_least_lanes : List Str := ["chart", "ship", "hour", "start", "wet", "least", "ring", "lanes", "place"]
theorem sc_least_lanes : FnScope ["chart", "ship", "hour", "start", "wet", "least", "ring", "lanes", "place"] ["chart", "ship", "hour", "start"] (defScope s_least_lanes) := ⟨rfl, rfl, rfl, by decide +kernel, rfl, by decide +kernel, by decide +kernel⟩
def sp_least_lanes (K : PySem.W.Frag) (C_Chart : Addr) (C_Ship : Addr) : Sp := fun vs H Q _ => ∃ (v0 : V) (d0 : (Int × (List Int) × (List (Int × Int)) × (List Int) × (List Int) × (List (List Int)))) (v1 : V) (d1 : (Int × Int × Int × Int × Int)) (d2 : Int) (d3 : Int) (r : (List (Option Int))), vs = [v0, v1, (.int d2), (.int d3)] ∧ (yObj C_Chart nm_Chart ty_Chart).rep K H [] v0 d0 ∧ (yObj C_Ship nm_Ship ty_Ship).rep K H [] v1 d1 ∧ Mi.m_least_lanes d0 d1 d2 d3 = some r ∧ ∀ v H' F, Chg ([]) H H' → (yLst (yOpt yInt)).rep K H' F v r → (∀ a ∈ F, H a = none) → Q v H'
theorem ok_least_lanes (B : Bi mg) (CN : Cs K mg) (D : Dfn K mg "least_lanes" s_least_lanes) {C_Chart : Addr} (T_Chart : Tx K mg C_Chart "Chart" nm_Chart) {C_Ship : Addr} (T_Ship : Tx K mg C_Ship "Ship" nm_Ship) (M_Chart_water : CalM P w K mg C_Chart "water" ["self", "place", "hour"] 1 (sp_Chart_water K C_Chart)) (C_next_ring : Cal P w K mg "next_ring" ["chart", "wet", "ring"] 2 (sp_next_ring K C_Chart)) : Cal P w K mg "least_lanes" ["chart", "ship", "hour", "start"] 3 (sp_least_lanes K C_Chart C_Ship) := by
  obtain ⟨f, fd, F, g⟩ := D.ex
  refine ⟨f, fd, g, F.kp, bindsF F (fun _ _ _ _ _ _ us hl => match us, hl with | [_, _, _, _], _ => rfl), fun base => F.ok sc_least_lanes (fun vs H Q E h => ?_) (fun cdv A outer s H0 vs Q E hr h => ?_)⟩
  · obtain ⟨v0, d0, v1, d1, d2, d3, r, rfl, r0, r1, hm, hQ⟩ := h; rfl
  ·
    obtain ⟨v0, d0, v1, d1, d2, d3, r, rfl, r0, r1, hm, hQ⟩ := h
    obtain ⟨fM_Chart_water, fdM_Chart_water, hM_Chart_water, bM_Chart_water, OM_Chart_water⟩ := M_Chart_water.ex
    refine ⟨_, pss_cons (ps_setLc (i := 4) (own := [("place", 8)]) rfl sc_least_lanes.nd rfl rfl (sw_true rfl rfl rfl (by decide +kernel)) (pi_range1 (by rfl) B.range (pa_cons (pe_fldk (K := K) (pv 0) (by rfl)) pa_nil)) (blkOk_by (own := [("place", 8)]) (N := N_least_lanes) (sc := defScope s_least_lanes) (by decide +kernel)) (fun _ _ _ _ _ => (pg_name (i := 8) sc_least_lanes.nd rfl (.inl rfl))) (fun _ _ _ _ _ => pts_nil) (fun _ _ _ _ _ => (pe_cmpR op_ge (pe_meth (pv 0) T_Chart.cls hM_Chart_water (OM_Chart_water base) (hr.mono (by decide)) (fun s us _ hl => by rw [List.append_nil] at hl ⊢; exact bM_Chart_water s us hl) .nil pass0 (pa_cons (pv 8) (pa_cons (pv 2) pa_nil))) (pe_fldk (K := K) (pv 1) (by rfl)) (nomark _))))
      (pss_cons (ps_set (i := 5) sc_least_lanes.nd rfl (.inl rfl) (pe_op op_rep (pe_lst (pa_cons pe_non pa_nil)) (pe_fldk (K := K) (pv 0) (by rfl))))
      (pss_cons (ps_if (pt_cmpR op_eq (pe_fldk (K := K) (pv 1) (by rfl)) pe_int (nomark _)) (pss_cons (ps_asg pe_int (pg_sub (pv 5) (pv 3) set_list))
      (pss_nil)) (pss_nil))
      (pss_cons (ps_set (i := 6) sc_least_lanes.nd rfl (.inl rfl) (pe_ifExp (pt_val (pe_ix (ix_l (K := K)) (pv 4) (pv 3) (fun _ _ => rfl))) (pe_lst (pa_cons (pv 3) pa_nil)) (pe_lst pa_nil)))
      (pss_cons (ps_for PassesOwn.never rfl (pi_range2 (by rfl) B.range (pa_cons pe_int (pa_cons (pe_op op_add (pe_fldk (K := K) (pv 1) (by rfl)) pe_int) pa_nil))) (pg_name (i := 7) sc_least_lanes.nd rfl (.inl rfl)) (pss_cons (ps_set (i := 6) sc_least_lanes.nd rfl (.inl rfl) (pe_cc C_next_ring hr (pa_cons (pv 0) (pa_cons (pv 4) (pa_cons (pv 6) pa_nil)))))
      (pss_cons (ps_for PassesOwn.never rfl (pi_list (pv 6)) (pg_name (i := 8) sc_least_lanes.nd rfl (.inl rfl)) (pss_cons (ps_if (PW.pt (pw_and (pt_cmpR op_ge (pv 7) (pe_fldk (K := K) (pv 1) (by rfl)) (nomark _)) (pw_and1 (pt_cmpR op_isN1 (pe_ix (ix_l (K := K)) (pv 5) (pv 8) (fun _ _ => rfl)) pe_non (nomark _))))) (pss_cons (ps_asg (pv 7) (pg_sub (pv 5) (pv 8) set_list))
      (pss_nil)) (pss_nil))
      (pss_nil)))
      (pss_nil))))
      (pss_cons (ps_ret (pv 5)) pss_nil))))), ?_⟩
    have c0 : Chg ([] : List Addr) H0 H0 := Chg.refl H0
    unfold Mi.m_least_lanes at hm
    refine q_asg ?_
    refine w_lc ?_
    refine w_iRng1 ?_
    obtain ⟨u5, r6, kx7, ku8⟩ := fld_obj (n := 0) (f := "size") at0 (by decide +kernel) rfl T_Chart.cls (T_Chart.na "size" (by decide +kernel)) r0
    obtain ⟨_, rfl⟩ := r6
    refine w_args (va_cons (ku8 (val_var rfl)) va_nil) ?_
    obtain ⟨g9, hg9, hm⟩ := Mi.bnd hm
    obtain ⟨e10, he10, hm⟩ := Mi.bnd hm
    refine kc_rng1 (K := K) (τ := yBool) hg9 (fun D12 i H' => ∃ (s11 : (List Bool)), Chg ([] : List Addr) H0 H' ∧ (yObj C_Chart nm_Chart ty_Chart).rep K H' [] v0 d0 ∧ (yObj C_Ship nm_Ship ty_Ship).rep K H' [] v1 d1 ∧ (yLst yBool).rep K H' [D12] (.ref D12) s11 ∧ (∀ a ∈ [D12], H0 a = none) ∧ Mi.forN (Mi.m_least_lanes_b1 d0 d1 d2) s11 (List.drop i g9) = some e10) (fun D12 H17 np16 c15 r13 => ⟨([] : (List Bool)), c0.trans c15.none, (Ty.fz r0 c15), (Ty.fz r1 c15), r13, one_fresh (c0.dom D12 np16), he10⟩) (fun D12 i20 x19 H21 hx18 hp => ?_) (fun D12 H' np16 hp => ?_)
    ·
      obtain ⟨s11, c0, r0, r1, r13, n14, hle10⟩ := hp
      obtain ⟨_, hbe10, hle10⟩ := Mi.forN_go hle10 hx18
      unfold Mi.m_least_lanes_b1 at hbe10
      refine g_name (σ' := [some v0, some v1, some (.int d2), some (.int d3), none, none, none, none, some (.int x19)]) rfl ?_
      refine ⟨rfl, ?_⟩
      refine w_yes ?_
      refine iteT ?_
      refine w_op ?_
      refine w_meth ?_
      refine c_val (val_var rfl) ?_
      refine meth_obj r0 (by decide +kernel) ?_
      refine w_args (va_cons (val_var rfl) (va_cons (val_var rfl) va_nil)) ?_
      obtain ⟨q28, hq28, hbe10⟩ := Mi.bnd hbe10
      refine ⟨v0, d0, x19, d2, q28, rfl, r0, hq28, fun H30 c29  => ?_⟩
      have r0 := Ty.fz r0 c29
      have r1 := Ty.fz r1 c29
      have r13 := Ty.ex r13 c29
      have c0 := c0.trans c29.none
      obtain ⟨u31, r32, kx33, ku34⟩ := fld_obj (n := 0) (f := "draught") at0 (by decide +kernel) rfl T_Ship.cls (T_Ship.na "draught" (by decide +kernel)) r1
      obtain ⟨_, rfl⟩ := r32
      refine c_val (ku34 (val_var rfl)) ?_
      refine w_I0 ?_
      obtain ⟨x35, hx35, hbe10⟩ := Mi.bnd hbe10
      refine e_app r13 yBool_i hx35 fun H37 c36 r13 => ?_
      have r0 := Ty.fz r0 c36
      have r1 := Ty.fz r1 c36
      have c0 := c0.join c36 (fun a h => .inr (n14 a h))
      obtain rfl := Option.some.inj hbe10
      exact ⟨x35, c0, r0, r1, r13, n14, hle10⟩
    obtain ⟨s11, c0, r0, r1, r13, n14, hle10⟩ := hp
    obtain rfl := Mi.forN_end hle10
    refine g_name (σ' := [some v0, some v1, some (.int d2), some (.int d3), some (.ref D12), none, none, none, none]) rfl ?_
    refine q_asg ?_
    refine w_op ?_
    refine w_lst ?_
    refine w_args (va_cons val_c va_nil) ?_
    refine e_lst (K := K) (τ := (yOpt yInt)) (by exact Nat.le_of_ble_eq_true rfl) (.cons opt_n .nil) fun p38 H42 np41 c39 r40 => ?_
    have d43 : Dj [D12] [p38] := Ty.nin r13 np41
    have n44 : ∀ a ∈ [p38], H0 a = none := one_fresh (c0.dom p38 np41)
    have r0 := Ty.fz r0 c39
    have r1 := Ty.fz r1 c39
    have r13 := Ty.ex r13 c39
    have c0 := c0.trans c39.none
    obtain ⟨u45, r46, kx47, ku48⟩ := fld_obj (n := 0) (f := "size") at0 (by decide +kernel) rfl T_Chart.cls (T_Chart.na "size" (by decide +kernel)) r0
    obtain ⟨_, rfl⟩ := r46
    refine c_val (ku48 (val_var rfl)) ?_
    obtain ⟨x49, hx49, hm⟩ := Mi.bnd hm
    refine w_rep r40 hx49 fun p50 H54 np53 c51 r52 => ?_
    have d55 : Dj [D12] [p50] := Ty.nin r13 np53
    have d56 : Dj [p38] [p50] := Ty.nin r40 np53
    have n57 : ∀ a ∈ [p50], H0 a = none := one_fresh (c0.dom p50 np53)
    have r0 := Ty.fz r0 c51
    have r1 := Ty.fz r1 c51
    have r13 := Ty.ex r13 c51
    have r40 := Ty.ex r40 c51
    have c0 := c0.trans c51.none
    refine g_name (σ' := [some v0, some v1, some (.int d2), some (.int d3), some (.ref D12), some (.ref p50), none, none, none]) rfl ?_
    obtain ⟨s58, hs58, hm⟩ := Mi.bnd hm
    refine s_join (R := fun σ' H' => σ' = [some v0, some v1, some (.int d2), some (.int d3), some (.ref D12), some (.ref p50), none, none, none] ∧ Chg ([] : List Addr) H0 H' ∧ (yObj C_Chart nm_Chart ty_Chart).rep K H' [] v0 d0 ∧ (yObj C_Ship nm_Ship ty_Ship).rep K H' [] v1 d1 ∧ (yLst yBool).rep K H' [D12] (.ref D12) s11 ∧ (yLst (yOpt yInt)).rep K H' [p50] (.ref p50) s58) (fun nx kx => ?_) (fun σ' H' hj => ?_)
    ·
      obtain ⟨u59, r60, kx61, ku62⟩ := fld_obj (n := 1) (f := "slow") (atS at0) (by decide +kernel) rfl T_Ship.cls (T_Ship.na "slow" (by decide +kernel)) r1
      obtain ⟨_, rfl⟩ := r60
      refine s_if (ans_t (val_eqI (ku62 (val_var rfl)) val_c)) (fun hb => ?_) (fun hb => ?_)
      ·
        replace hs58 := Mi.ifT hb hs58
        refine q_asg ?_
        refine c_val val_c ?_
        refine w_gsub ?_
        refine c_val (val_var rfl) ?_
        refine c_val (val_var rfl) ?_
        obtain ⟨x63, hx63, hs58⟩ := Mi.bnd hs58
        refine m_set r52 (opt_i nn_int yInt_i) hx63 fun H65 c64 r52 => ?_
        have r0 := Ty.fz r0 c64
        have r1 := Ty.fz r1 c64
        have r13 := Ty.chg r13 c64 d55
        have c0 := c0.join c64 (fun a h => .inr (n57 a h))
        refine w_nextJ ?_
        obtain rfl := Option.some.inj hs58
        exact kx _ _ ⟨rfl, c0, r0, r1, r13, r52⟩
      ·
        replace hs58 := Mi.ifF hb hs58
        refine w_nextJ ?_
        obtain rfl := Option.some.inj hs58
        exact kx _ _ ⟨rfl, c0, r0, r1, r13, r52⟩
    obtain ⟨rfl, c0, r0, r1, r13, r52⟩ := hj
    refine q_asg ?_
    obtain ⟨x66, hx66, hm⟩ := Mi.bnd hm
    refine j_if (fun z H' => ∃ F68, Chg ([] : List Addr) H0 H' ∧ (yObj C_Chart nm_Chart ty_Chart).rep K H' [] v0 d0 ∧ (yObj C_Ship nm_Ship ty_Ship).rep K H' [] v1 d1 ∧ (yLst yBool).rep K H' [D12] (.ref D12) s11 ∧ (yLst (yOpt yInt)).rep K H' [p50] (.ref p50) s58 ∧ (yLst yInt).rep K H' F68 z x66 ∧ (∀ a ∈ F68, H0 a = none) ∧ Dj [D12] F68 ∧ Dj [p50] F68) (fun Q' kq => ?_) (fun u67 H' hj => ?_)
    ·
      refine w_ife ?_
      obtain ⟨x73, hx73, hx66⟩ := Mi.bnd hx66
      obtain ⟨u74, r75, ku76⟩ := itm_L r13 hx73
      obtain ⟨_, rfl⟩ := r75
      refine c_ans (ans_B (ku76 (val_var rfl) (val_var rfl))) ?_
      refine c_if (fun hb => ?_) (fun hb => ?_)
      ·
        replace hx66 := Mi.ifT hb hx66
        refine w_lst ?_
        refine w_args (va_cons (val_var rfl) va_nil) ?_
        refine e_lst (K := K) (τ := yInt) (by exact Nat.le_of_ble_eq_true rfl) (.cons yInt_i .nil) fun p77 H81 np80 c78 r79 => ?_
        have d82 : Dj [D12] [p77] := Ty.nin r13 np80
        have d83 : Dj [p50] [p77] := Ty.nin r52 np80
        have n84 : ∀ a ∈ [p77], H0 a = none := one_fresh (c0.dom p77 np80)
        have r0 := Ty.fz r0 c78
        have r1 := Ty.fz r1 c78
        have r13 := Ty.ex r13 c78
        have r52 := Ty.ex r52 c78
        have c0 := c0.trans c78.none
        obtain rfl := Option.some.inj hx66
        exact kq _ _ ⟨[p77], c0, r0, r1, r13, r52, r79, n84, (d82), (d83)⟩
      ·
        replace hx66 := Mi.ifF hb hx66
        refine w_lst ?_
        refine w_args va_nil ?_
        refine e_lst (K := K) (τ := yInt) (by exact Nat.le_of_ble_eq_true rfl) .nil fun p85 H89 np88 c86 r87 => ?_
        have d90 : Dj [D12] [p85] := Ty.nin r13 np88
        have d91 : Dj [p50] [p85] := Ty.nin r52 np88
        have n92 : ∀ a ∈ [p85], H0 a = none := one_fresh (c0.dom p85 np88)
        have r0 := Ty.fz r0 c86
        have r1 := Ty.fz r1 c86
        have r13 := Ty.ex r13 c86
        have r52 := Ty.ex r52 c86
        have c0 := c0.trans c86.none
        obtain rfl := Option.some.inj hx66
        exact kq _ _ ⟨[p85], c0, r0, r1, r13, r52, r87, n92, (d90), (d91)⟩
    obtain ⟨F68, c0, r0, r1, r13, r52, r69, n70, d71, d72⟩ := hj
    refine g_name (σ' := [some v0, some v1, some (.int d2), some (.int d3), some (.ref D12), some (.ref p50), some u67, none, none]) rfl ?_
    refine q_for ?_
    refine w_iRng2 ?_
    obtain ⟨u93, r94, kx95, ku96⟩ := fld_obj (n := 2) (f := "fast") (atS (atS at0)) (by decide +kernel) rfl T_Ship.cls (T_Ship.na "fast" (by decide +kernel)) r1
    obtain ⟨_, rfl⟩ := r94
    refine w_args (va_cons val_c (va_cons (val_add (ku96 (val_var rfl)) val_c) va_nil)) ?_
    obtain ⟨g97, hg97, hm⟩ := Mi.bnd hm
    obtain ⟨e98, he98, hm⟩ := Mi.bnd hm
    refine l_rng2 hg97 (fun i σ' H' => ∃ (s99 : ((List (Option Int)) × (List Int))) (y104 : Option V) (y105 : Option V) (v100 : V) (F102 : List Addr), σ' = [some v0, some v1, some (.int d2), some (.int d3), some (.ref D12), some (.ref p50), some v100, y104, y105] ∧ Chg ([] : List Addr) H0 H' ∧ (yObj C_Chart nm_Chart ty_Chart).rep K H' [] v0 d0 ∧ (yObj C_Ship nm_Ship ty_Ship).rep K H' [] v1 d1 ∧ (yLst yBool).rep K H' [D12] (.ref D12) s11 ∧ (yLst (yOpt yInt)).rep K H' [p50] (.ref p50) s99.1 ∧ (yLst yInt).rep K H' F102 v100 s99.2 ∧ (∀ a ∈ F102, H0 a = none) ∧ Dj F102 [D12] ∧ Dj F102 [p50] ∧ Mi.forN (Mi.m_least_lanes_b2 d0 d1 s11) s99 (List.drop i g97) = some e98) ⟨(s58, x66), none, none, u67, F68, rfl, c0, r0, r1, r13, r52, r69, n70, d71.symm, d72.symm, he98⟩ (fun i110 x109 σ' H' hx108 hp => ?_) (fun σ' H' hp => ?_)
    ·
      obtain ⟨s99, y104, y105, v100, F102, rfl, c0, r0, r1, r13, r52, r101, n103, d106, d107, hle98⟩ := hp
      obtain ⟨_, hbe98, hle98⟩ := Mi.forN_go hle98 hx108
      unfold Mi.m_least_lanes_b2 at hbe98
      refine g_name (σ' := [some v0, some v1, some (.int d2), some (.int d3), some (.ref D12), some (.ref p50), some v100, some (.int x109), y105]) rfl ?_
      refine q_asg ?_
      refine w_call ?_
      refine w_args (va_cons (val_var rfl) (va_cons (val_var rfl) (va_cons (val_var rfl) va_nil))) ?_
      obtain ⟨q111, hq111, hbe98⟩ := Mi.bnd hbe98
      refine ⟨v0, d0, (.ref D12), [D12], s11, v100, F102, s99.2, q111, rfl, r0, r13, r101, hq111, fun v114 H113 F116 c112 r115 fr117  => ?_⟩
      have d118 : Dj [D12] F116 := Ty.fresh r13 fr117
      have d119 : Dj [p50] F116 := Ty.fresh r52 fr117
      have d120 : Dj F102 F116 := Ty.fresh r101 fr117
      have n121 : ∀ a ∈ F116, H0 a = none := fun a h => c0.dom a (fr117 a h)
      have r0 := Ty.fz r0 c112
      have r1 := Ty.fz r1 c112
      have r13 := Ty.ex r13 c112
      have r52 := Ty.ex r52 c112
      have r101 := Ty.ex r101 c112
      have c0 := c0.trans c112.none
      refine g_name (σ' := [some v0, some v1, some (.int d2), some (.int d3), some (.ref D12), some (.ref p50), some v114, some (.int x109), y105]) rfl ?_
      refine q_for ?_
      refine w_iList ?_
      refine c_val (val_var rfl) ?_
      obtain ⟨e122, he122, hbe98⟩ := Mi.bnd hbe98
      refine l_lst r115 (fun i σ' H' => ∃ (s123 : (List (Option Int))) (y124 : Option V), σ' = [some v0, some v1, some (.int d2), some (.int d3), some (.ref D12), some (.ref p50), some v114, some (.int x109), y124] ∧ Chg ([] : List Addr) H0 H' ∧ (yObj C_Chart nm_Chart ty_Chart).rep K H' [] v0 d0 ∧ (yObj C_Ship nm_Ship ty_Ship).rep K H' [] v1 d1 ∧ (yLst yBool).rep K H' [D12] (.ref D12) s11 ∧ (yLst (yOpt yInt)).rep K H' [p50] (.ref p50) s123 ∧ (yLst yInt).rep K H' F116 v114 q111 ∧ Mi.forN (Mi.m_least_lanes_b3 d1 x109) s123 (List.drop i q111) = some e122) ⟨s99.1, y105, rfl, c0, r0, r1, r13, r52, r115, he122⟩ (fun i σ' H' hp => by obtain ⟨s123, y124, rfl, c0, r0, r1, r13, r52, r115, _⟩ := hp; exact r115) (fun i127 x126 u128 σ' H' hx125 r129 hp => ?_) (fun σ' H' hp => ?_)
      ·
        obtain ⟨s123, y124, rfl, c0, r0, r1, r13, r52, r115, hle122⟩ := hp
        obtain ⟨_, hbe122, hle122⟩ := Mi.forN_go hle122 hx125
        unfold Mi.m_least_lanes_b3 at hbe122
        obtain ⟨_, rfl⟩ := r129
        refine g_name (σ' := [some v0, some v1, some (.int d2), some (.int d3), some (.ref D12), some (.ref p50), some v114, some (.int x109), some (.int x126)]) rfl ?_
        obtain ⟨s130, hs130, hbe122⟩ := Mi.bnd hbe122
        refine s_join (R := fun σ' H' => σ' = [some v0, some v1, some (.int d2), some (.int d3), some (.ref D12), some (.ref p50), some v114, some (.int x109), some (.int x126)] ∧ Chg ([] : List Addr) H0 H' ∧ (yObj C_Chart nm_Chart ty_Chart).rep K H' [] v0 d0 ∧ (yObj C_Ship nm_Ship ty_Ship).rep K H' [] v1 d1 ∧ (yLst yBool).rep K H' [D12] (.ref D12) s11 ∧ (yLst (yOpt yInt)).rep K H' [p50] (.ref p50) s130 ∧ (yLst yInt).rep K H' F116 v114 q111) (fun nx kx => ?_) (fun σ' H' hj => ?_)
        ·
          obtain ⟨u131, r132, kx133, ku134⟩ := fld_obj (n := 1) (f := "slow") (atS at0) (by decide +kernel) rfl T_Ship.cls (T_Ship.na "slow" (by decide +kernel)) r1
          obtain ⟨_, rfl⟩ := r132
          obtain ⟨b140, hb140, hs130⟩ := Mi.bnd hs130
          refine s_if (ans_andO (ans_t (val_ge (val_var rfl) (ku134 (val_var rfl)))) hb140 (fun hs135 => by (obtain ⟨x136, hx136, hs135⟩ := Mi.bnd hs135; obtain ⟨u137, r138, ku139⟩ := itm_L r52 hx136; cases hs135; exact (ans_t (val_isN r138 (ku139 (val_var rfl) (val_var rfl))))))) (fun hb => ?_) (fun hb => ?_)
          ·
            replace hs130 := Mi.ifT hb hs130
            refine q_asg ?_
            refine c_val (val_var rfl) ?_
            refine w_gsub ?_
            refine c_val (val_var rfl) ?_
            refine c_val (val_var rfl) ?_
            obtain ⟨x141, hx141, hs130⟩ := Mi.bnd hs130
            refine m_set r52 (opt_i nn_int yInt_i) hx141 fun H143 c142 r52 => ?_
            have r0 := Ty.fz r0 c142
            have r1 := Ty.fz r1 c142
            have r13 := Ty.chg r13 c142 d55
            have r115 := Ty.chg r115 c142 d119.symm
            have c0 := c0.join c142 (fun a h => .inr (n57 a h))
            refine w_nextJ ?_
            obtain rfl := Option.some.inj hs130
            exact kx _ _ ⟨rfl, c0, r0, r1, r13, r52, r115⟩
          ·
            replace hs130 := Mi.ifF hb hs130
            refine w_nextJ ?_
            obtain rfl := Option.some.inj hs130
            exact kx _ _ ⟨rfl, c0, r0, r1, r13, r52, r115⟩
        obtain ⟨rfl, c0, r0, r1, r13, r52, r115⟩ := hj
        refine w_nextJ ?_
        obtain rfl := Option.some.inj hbe122
        exact ⟨_, (some (.int x126)), rfl, c0, r0, r1, r13, r52, r115, hle122⟩
      obtain ⟨s123, y124, rfl, c0, r0, r1, r13, r52, r115, hle122⟩ := hp
      obtain rfl := Mi.forN_end hle122
      refine w_nextJ ?_
      obtain rfl := Option.some.inj hbe98
      exact ⟨_, (some (.int x109)), y124, v114, F116, rfl, c0, r0, r1, r13, r52, r115, n121, d118.symm, d119.symm, hle98⟩
    obtain ⟨s99, y104, y105, v100, F102, rfl, c0, r0, r1, r13, r52, r101, n103, d106, d107, hle98⟩ := hp
    obtain rfl := Mi.forN_end hle98
    refine q_ret ?_
    refine c_val (val_var rfl) ?_
    obtain rfl := Option.some.inj hm
    exact hQ _ _ _ c0 r52 n57 
abbrev s_step_lanes : Stmt := topS 12
abbrev N_step_lanes : List Str := ["chart", "ship", "hour", "start", "goal"]
theorem sc_step_lanes : FnScope ["chart", "ship", "hour", "start", "goal"] ["chart", "ship", "hour", "start", "goal"] (defScope s_step_lanes) := ⟨rfl, rfl, rfl, by decide +kernel, rfl, by decide +kernel, by decide +kernel⟩
def sp_step_lanes (K : PySem.W.Frag) (C_Chart : Addr) (C_Ship : Addr) : Sp := fun vs H Q _ => ∃ (v0 : V) (d0 : (Int × (List Int) × (List (Int × Int)) × (List Int) × (List Int) × (List (List Int)))) (v1 : V) (d1 : (Int × Int × Int × Int × Int)) (d2 : Int) (d3 : Int) (d4 : Int) (r : (Option Int)), vs = [v0, v1, (.int d2), (.int d3), (.int d4)] ∧ (yObj C_Chart nm_Chart ty_Chart).rep K H [] v0 d0 ∧ (yObj C_Ship nm_Ship ty_Ship).rep K H [] v1 d1 ∧ Mi.m_step_lanes d0 d1 d2 d3 d4 = some r ∧ ∀ v H', Chg ([]) H H' → (yOpt yInt).rep K H' [] v r → Q v H'
theorem ok_step_lanes (B : Bi mg) (CN : Cs K mg) (D : Dfn K mg "step_lanes" s_step_lanes) {C_Chart : Addr} (T_Chart : Tx K mg C_Chart "Chart" nm_Chart) {C_Ship : Addr} (T_Ship : Tx K mg C_Ship "Ship" nm_Ship) (C_least_lanes : Cal P w K mg "least_lanes" ["chart", "ship", "hour", "start"] 3 (sp_least_lanes K C_Chart C_Ship)) : Cal P w K mg "step_lanes" ["chart", "ship", "hour", "start", "goal"] 4 (sp_step_lanes K C_Chart C_Ship) := by
  obtain ⟨f, fd, F, g⟩ := D.ex
  refine ⟨f, fd, g, F.kp, bindsF F (fun _ _ _ _ _ _ us hl => match us, hl with | [_, _, _, _, _], _ => rfl), fun base => F.ok sc_step_lanes (fun vs H Q E h => ?_) (fun cdv A outer s H0 vs Q E hr h => ?_)⟩
  · obtain ⟨v0, d0, v1, d1, d2, d3, d4, r, rfl, r0, r1, hm, hQ⟩ := h; rfl
  ·
    obtain ⟨v0, d0, v1, d1, d2, d3, d4, r, rfl, r0, r1, hm, hQ⟩ := h
    refine ⟨_, pss_cons (ps_ret (pe_ix (ix_l (K := K)) (pe_cc C_least_lanes hr (pa_cons (pv 0) (pa_cons (pv 1) (pa_cons (pv 2) (pa_cons (pv 3) pa_nil))))) (pv 4) (fun _ _ => rfl))) pss_nil, ?_⟩
    have c0 : Chg ([] : List Addr) H0 H0 := Chg.refl H0
    unfold Mi.m_step_lanes at hm
    refine q_ret ?_
    refine w_op ?_
    refine w_call ?_
    refine w_args (va_cons (val_var rfl) (va_cons (val_var rfl) (va_cons (val_var rfl) (va_cons (val_var rfl) va_nil)))) ?_
    obtain ⟨q6, hq6, hm⟩ := Mi.bnd hm
    refine ⟨v0, d0, v1, d1, d2, d3, q6, rfl, r0, r1, hq6, fun v9 H8 F11 c7 r10 fr12  => ?_⟩
    have n13 : ∀ a ∈ F11, H0 a = none := fun a h => c0.dom a (fr12 a h)
    have r0 := Ty.fz r0 c7
    have r1 := Ty.fz r1 c7
    have c0 := c0.trans c7.none
    refine c_val (val_var rfl) ?_
    obtain ⟨x14, hx14, hm⟩ := Mi.bnd hm
    refine w_ixL r10 hx14 fun u15 r16 => ?_
    obtain rfl := Option.some.inj hm
    exact hQ _ _ c0 r16 
abbrev s_Chart_is_harbour : Stmt := inClass (topS 30) 4
abbrev N_Chart_is_harbour : List Str := ["self", "place"]
theorem sc_Chart_is_harbour : FnScope ["self", "place"] ["self", "place"] (defScope s_Chart_is_harbour) := ⟨rfl, rfl, rfl, by decide +kernel, rfl, by decide +kernel, by decide +kernel⟩
def sp_Chart_is_harbour (K : PySem.W.Frag) (C_Chart : Addr) : Sp := fun vs H Q _ => ∃ (v0 : V) (d0 : (Int × (List Int) × (List (Int × Int)) × (List Int) × (List Int) × (List (List Int)))) (d1 : Int) (r : Bool), vs = [v0, (.int d1)] ∧ (yObj C_Chart nm_Chart ty_Chart).rep K H [] v0 d0 ∧ Mi.m_Chart_is_harbour d0 d1 = some r ∧ ∀ H', Chg ([]) H H' → Q (.bl r) H'
theorem ok_Chart_is_harbour (B : Bi mg) (CN : Cs K mg) {C_Chart : Addr} (T_Chart : Tx K mg C_Chart "Chart" nm_Chart) (D : DfnM K C_Chart "is_harbour" "Chart.is_harbour" s_Chart_is_harbour) : CalM P w K mg C_Chart "is_harbour" ["self", "place"] 1 (sp_Chart_is_harbour K C_Chart) := by
  obtain ⟨f, fd, F, g⟩ := D.ex
  refine ⟨f, fd, g, bindsF F (fun _ _ _ _ _ _ us hl => match us, hl with | [_, _], _ => rfl), fun base => F.ok sc_Chart_is_harbour (fun vs H Q E h => ?_) (fun cdv A outer s H0 vs Q E hr h => ?_)⟩
  · obtain ⟨v0, d0, d1, r, rfl, r0, hm, hQ⟩ := h; rfl
  ·
    obtain ⟨v0, d0, d1, r, rfl, r0, hm, hQ⟩ := h
    refine ⟨_, pss_cons (ps_ret (pe_cmpR (op_in_q (K := K)) (pv 1) (pe_fldk (K := K) (pv 0) (by rfl)) (by rfl))) pss_nil, ?_⟩
    have c0 : Chg ([] : List Addr) H0 H0 := Chg.refl H0
    unfold Mi.m_Chart_is_harbour at hm
    refine q_ret ?_
    obtain ⟨u3, r4, kx5, ku6⟩ := fld_obj (n := 4) (f := "harbours") (atS (atS (atS (atS at0)))) (by decide +kernel) rfl T_Chart.cls (T_Chart.na "harbours" (by decide +kernel)) r0
    refine c_val (val_inT r4 (val_var rfl) (ku6 (val_var rfl))) ?_
    obtain rfl := Option.some.inj hm
    exact hQ _ c0 
abbrev s_fuel_after : Stmt := topS 14
abbrev N_fuel_after : List Str := ["chart", "ship", "place", "amount"]
theorem sc_fuel_after : FnScope ["chart", "ship", "place", "amount"] ["chart", "ship", "place", "amount"] (defScope s_fuel_after) := ⟨rfl, rfl, rfl, by decide +kernel, rfl, by decide +kernel, by decide +kernel⟩
def sp_fuel_after (K : PySem.W.Frag) (C_Chart : Addr) (C_Ship : Addr) : Sp := fun vs H Q _ => ∃ (v0 : V) (d0 : (Int × (List Int) × (List (Int × Int)) × (List Int) × (List Int) × (List (List Int)))) (v1 : V) (d1 : (Int × Int × Int × Int × Int)) (d2 : Int) (d3 : Int) (r : Int), vs = [v0, v1, (.int d2), (.int d3)] ∧ (yObj C_Chart nm_Chart ty_Chart).rep K H [] v0 d0 ∧ (yObj C_Ship nm_Ship ty_Ship).rep K H [] v1 d1 ∧ Mi.m_fuel_after d0 d1 d2 d3 = some r ∧ ∀ H', Chg ([]) H H' → Q (.int r) H'
theorem ok_fuel_after (B : Bi mg) (CN : Cs K mg) (D : Dfn K mg "fuel_after" s_fuel_after) {C_Chart : Addr} (T_Chart : Tx K mg C_Chart "Chart" nm_Chart) {C_Ship : Addr} (T_Ship : Tx K mg C_Ship "Ship" nm_Ship) (M_Chart_is_harbour : CalM P w K mg C_Chart "is_harbour" ["self", "place"] 1 (sp_Chart_is_harbour K C_Chart)) : Cal P w K mg "fuel_after" ["chart", "ship", "place", "amount"] 2 (sp_fuel_after K C_Chart C_Ship) := by
  obtain ⟨f, fd, F, g⟩ := D.ex
  refine ⟨f, fd, g, F.kp, bindsF F (fun _ _ _ _ _ _ us hl => match us, hl with | [_, _, _, _], _ => rfl), fun base => F.ok sc_fuel_after (fun vs H Q E h => ?_) (fun cdv A outer s H0 vs Q E hr h => ?_)⟩
  · obtain ⟨v0, d0, v1, d1, d2, d3, r, rfl, r0, r1, hm, hQ⟩ := h; rfl
  ·
    obtain ⟨v0, d0, v1, d1, d2, d3, r, rfl, r0, r1, hm, hQ⟩ := h
    obtain ⟨fM_Chart_is_harbour, fdM_Chart_is_harbour, hM_Chart_is_harbour, bM_Chart_is_harbour, OM_Chart_is_harbour⟩ := M_Chart_is_harbour.ex
    refine ⟨_, pss_cons (ps_if (pt_val (pe_meth (pv 0) T_Chart.cls hM_Chart_is_harbour (OM_Chart_is_harbour base) (hr.mono (by decide)) (fun s us _ hl => by rw [List.append_nil] at hl ⊢; exact bM_Chart_is_harbour s us hl) .nil pass0 (pa_cons (pv 2) pa_nil))) (pss_cons (ps_ret (pe_fldk (K := K) (pv 1) (by rfl))) pss_nil) (pss_nil))
      (pss_cons (ps_ret (pv 3)) pss_nil), ?_⟩
    have c0 : Chg ([] : List Addr) H0 H0 := Chg.refl H0
    unfold Mi.m_fuel_after at hm
    refine q_ifS ?_
    refine w_B ?_
    refine w_meth ?_
    refine c_val (val_var rfl) ?_
    refine meth_obj r0 (by decide +kernel) ?_
    refine w_args (va_cons (val_var rfl) va_nil) ?_
    obtain ⟨q5, hq5, hm⟩ := Mi.bnd hm
    refine ⟨v0, d0, d2, q5, rfl, r0, hq5, fun H7 c6  => ?_⟩
    have r0 := Ty.fz r0 c6
    have r1 := Ty.fz r1 c6
    have c0 := c0.trans c6.none
    refine ⟨_, rfl, ?_⟩
    refine c_if (fun hb => ?_) (fun hb => ?_)
    ·
      replace hm := Mi.ifT hb hm
      refine q_ret ?_
      obtain ⟨u8, r9, kx10, ku11⟩ := fld_obj (n := 3) (f := "tank") (atS (atS (atS at0))) (by decide +kernel) rfl T_Ship.cls (T_Ship.na "tank" (by decide +kernel)) r1
      obtain ⟨_, rfl⟩ := r9
      refine c_val (ku11 (val_var rfl)) ?_
      obtain rfl := Option.some.inj hm
      exact hQ _ c0 
    replace hm := Mi.ifF hb hm
    refine w_fall ?_
    refine q_ret ?_
    refine c_val (val_var rfl) ?_
    obtain rfl := Option.some.inj hm
    exact hQ _ c0 
abbrev s_fuel_along : Stmt := topS 15
abbrev N_fuel_along : List Str := ["chart", "ship", "driving", "amounts", "hour", "place", "amount", "lanes"]
theorem sc_fuel_along : FnScope ["chart", "ship", "driving", "amounts", "hour", "place", "amount", "lanes"] ["chart", "ship", "driving"] (defScope s_fuel_along) := ⟨rfl, rfl, rfl, by decide +kernel, rfl, by decide +kernel, by decide +kernel⟩
def sp_fuel_along (K : PySem.W.Frag) (C_Chart : Addr) (C_Ship : Addr) : Sp := fun vs H Q _ => ∃ (v0 : V) (d0 : (Int × (List Int) × (List (Int × Int)) × (List Int) × (List Int) × (List (List Int)))) (v1 : V) (d1 : (Int × Int × Int × Int × Int)) (v2 : V) (F2 : List Addr) (d2 : (List Int)) (r : (Option (List Int))), vs = [v0, v1, v2] ∧ (yObj C_Chart nm_Chart ty_Chart).rep K H [] v0 d0 ∧ (yObj C_Ship nm_Ship ty_Ship).rep K H [] v1 d1 ∧ (yLst yInt).rep K H F2 v2 d2 ∧ Mi.m_fuel_along d0 d1 d2 = some r ∧ ∀ v H' F, Chg ([]) H H' → (yOpt (yLst yInt)).rep K H' F v r → (∀ a ∈ F, H a = none) → Q v H'
theorem ok_fuel_along (B : Bi mg) (CN : Cs K mg) (D : Dfn K mg "fuel_along" s_fuel_along) {C_Chart : Addr} (T_Chart : Tx K mg C_Chart "Chart" nm_Chart) {C_Ship : Addr} (T_Ship : Tx K mg C_Ship "Ship" nm_Ship) (C_step_lanes : Cal P w K mg "step_lanes" ["chart", "ship", "hour", "start", "goal"] 4 (sp_step_lanes K C_Chart C_Ship)) (C_fuel_after : Cal P w K mg "fuel_after" ["chart", "ship", "place", "amount"] 2 (sp_fuel_after K C_Chart C_Ship)) : Cal P w K mg "fuel_along" ["chart", "ship", "driving"] 5 (sp_fuel_along K C_Chart C_Ship) := by
  obtain ⟨f, fd, F, g⟩ := D.ex
  refine ⟨f, fd, g, F.kp, bindsF F (fun _ _ _ _ _ _ us hl => match us, hl with | [_, _, _], _ => rfl), fun base => F.ok sc_fuel_along (fun vs H Q E h => ?_) (fun cdv A outer s H0 vs Q E hr h => ?_)⟩
  · obtain ⟨v0, d0, v1, d1, v2, F2, d2, r, rfl, r0, r1, r2, hm, hQ⟩ := h; rfl
  ·
    obtain ⟨v0, d0, v1, d1, v2, F2, d2, r, rfl, r0, r1, r2, hm, hQ⟩ := h
    refine ⟨_, pss_cons (ps_set (i := 3) sc_fuel_along.nd rfl (.inl rfl) (pe_lst pa_nil))
      (pss_cons (ps_for PassesOwn.never rfl (pi_enum (by rfl) B.enumerate (pa_cons (pv 2) pa_nil)) (pg_tupk (K := K) (n := 2) rfl (pgs_cons (pg_name (i := 4) sc_fuel_along.nd rfl (.inl rfl)) (pgs_cons (pg_name (i := 5) sc_fuel_along.nd rfl (.inl rfl)) pgs_nil))) (pss_cons (ps_set (i := 6) sc_fuel_along.nd rfl (.inl rfl) (pe_fldk (K := K) (pv 1) (by rfl)))
      (pss_cons (ps_if (pt_cmpR op_gt (pv 4) pe_int (nomark _)) (pss_cons (ps_set (i := 7) sc_fuel_along.nd rfl (.inl rfl) (pe_cc C_step_lanes hr (pa_cons (pv 0) (pa_cons (pv 1) (pa_cons (pe_op op_sub (pv 4) pe_int) (pa_cons (pe_ix (ix_l (K := K)) (pv 2) (pe_op op_sub (pv 4) pe_int) (fun _ _ => rfl)) (pa_cons (pv 5) pa_nil)))))))
      (pss_cons (ps_if (PW.pt (pw_or (pt_cmpR op_isN1 (pv 7) pe_non (nomark _)) (pw_or1 (pt_cmpR op_gt (pv 7) (pe_ix (ix_l (K := K)) (pv 3) (pe_un un_neg pe_int) (fun _ _ => rfl)) (nomark _))))) (pss_cons (ps_ret pe_non) pss_nil) (pss_nil))
      (pss_cons (ps_set (i := 6) sc_fuel_along.nd rfl (.inl rfl) (pe_op op_sub (pe_ix (ix_l (K := K)) (pv 3) (pe_un un_neg pe_int) (fun _ _ => rfl)) (pv 7)))
      (pss_nil)))) (pss_nil))
      (pss_cons (ps_expr (pe_bm PySem.F.plainAttrs_list PySem.F.slot_list_append PySem.F.type_list_append mt_append (pv 3) (pa_cons (pe_cc C_fuel_after hr (pa_cons (pv 0) (pa_cons (pv 1) (pa_cons (pv 5) (pa_cons (pv 6) pa_nil))))) pa_nil)))
      (pss_nil)))))
      (pss_cons (ps_ret (pv 3)) pss_nil)), ?_⟩
    have c0 : Chg ([] : List Addr) H0 H0 := Chg.refl H0
    unfold Mi.m_fuel_along at hm
    refine q_asg ?_
    refine w_lst ?_
    refine w_args va_nil ?_
    refine e_lst (K := K) (τ := yInt) (by exact Nat.le_of_ble_eq_true rfl) .nil fun p4 H8 np7 c5 r6 => ?_
    have d9 : Dj F2 [p4] := Ty.nin r2 np7
    have n10 : ∀ a ∈ [p4], H0 a = none := one_fresh (c0.dom p4 np7)
    have r0 := Ty.fz r0 c5
    have r1 := Ty.fz r1 c5
    have r2 := Ty.ex r2 c5
    have c0 := c0.trans c5.none
    refine g_name (σ' := [some v0, some v1, some v2, some (.ref p4), none, none, none, none]) rfl ?_
    refine q_for ?_
    refine w_iEnum ?_
    refine w_args (va_cons (val_var rfl) va_nil) ?_
    obtain ⟨e11, he11, hm⟩ := Mi.bnd hm
    refine l_enum r2 (fun i σ' H' => ∃ (s12 : (List Int)) (y13 : Option V) (y14 : Option V) (y15 : Option V) (y16 : Option V), σ' = [some v0, some v1, some v2, some (.ref p4), y13, y14, y15, y16] ∧ Chg ([] : List Addr) H0 H' ∧ (yObj C_Chart nm_Chart ty_Chart).rep K H' [] v0 d0 ∧ (yObj C_Ship nm_Ship ty_Ship).rep K H' [] v1 d1 ∧ (yLst yInt).rep K H' F2 v2 d2 ∧ (yLst yInt).rep K H' [p4] (.ref p4) s12 ∧ Mi.forR (Mi.m_fuel_along_b1 d0 d1 d2) s12 (List.drop i (Mi.enumF 0 d2)) = some e11) ⟨([] : (List Int)), none, none, none, none, rfl, c0, r0, r1, r2, r6, he11⟩ (fun i σ' H' hp => by obtain ⟨s12, y13, y14, y15, y16, rfl, c0, r0, r1, r2, r6, _⟩ := hp; exact r2) (fun i19 x18 u20 σ' H' H23 hx17 c22 r21 hp => ?_) (fun σ' H' hp => ?_)
    ·
      obtain ⟨s12, y13, y14, y15, y16, rfl, c0, r0, r1, r2, r6, hle11⟩ := hp
      obtain ⟨o24, hbe11, hore11⟩ := Mi.forR_go hle11 hx17
      unfold Mi.m_fuel_along_b1 at hbe11
      have r0 := Ty.fz r0 c22
      have r1 := Ty.fz r1 c22
      have r2 := Ty.ex r2 c22
      have r6 := Ty.ex r6 c22
      have c0 := c0.trans c22.none
      obtain ⟨_, rfl⟩ := r21
      refine st_eq (σ' := [some v0, some v1, some v2, some (.ref p4), some (.int x18.1), some (.int x18.2), y15, y16]) rfl ?_
      obtain ⟨u25, r26, kx27, ku28⟩ := fld_obj (n := 4) (f := "fuel") (atS (atS (atS (atS at1)))) (by decide +kernel) rfl T_Ship.cls (T_Ship.na "fuel" (by decide +kernel)) r1
      obtain ⟨_, rfl⟩ := r26
      obtain ⟨amount29, hamount29, hbe11⟩ := Mi.letE hbe11
      refine q_setE (ku28 (val_var rfl)) (congrArg V.int hamount29) (σ' := [some v0, some v1, some v2, some (.ref p4), some (.int x18.1), some (.int x18.2), some (.int amount29), y16]) rfl ?_
      obtain ⟨s30, hs30, hbe11⟩ := Mi.bnd hbe11
      refine s_join (R := fun σ' H' => ∃ (s31 : Int) (y32 : Option V), s30 = .inr s31 ∧ σ' = [some v0, some v1, some v2, some (.ref p4), some (.int x18.1), some (.int x18.2), some (.int s31), y32] ∧ Chg ([] : List Addr) H0 H' ∧ (yObj C_Chart nm_Chart ty_Chart).rep K H' [] v0 d0 ∧ (yObj C_Ship nm_Ship ty_Ship).rep K H' [] v1 d1 ∧ (yLst yInt).rep K H' F2 v2 d2 ∧ (yLst yInt).rep K H' [p4] (.ref p4) s12) (fun nx kx => ?_) (fun σ' H' hj => ?_)
      ·
        refine s_if (ans_t (val_gt (val_var rfl) val_c)) (fun hb => ?_) (fun hb => ?_)
        ·
          replace hs30 := Mi.ifT hb hs30
          refine q_asg ?_
          refine w_call ?_
          obtain ⟨x33, hx33, hs30⟩ := Mi.bnd hs30
          refine w_args (va_cons (val_var rfl) (va_cons (val_var rfl) (va_cons (val_sub (val_var rfl) val_c) (va_cons (itm_LI r2 hx33 (val_var rfl) (val_sub (val_var rfl) val_c)) (va_cons (val_var rfl) va_nil))))) ?_
          obtain ⟨q34, hq34, hs30⟩ := Mi.bnd hs30
          refine ⟨v0, d0, v1, d1, (x18.1 - (1 : Int)), x33, x18.2, q34, rfl, r0, r1, hq34, fun v37 H36 c35 r38  => ?_⟩
          have r0 := Ty.fz r0 c35
          have r1 := Ty.fz r1 c35
          have r2 := Ty.ex r2 c35
          have r6 := Ty.ex r6 c35
          have c0 := c0.trans c35.none
          refine g_name (σ' := [some v0, some v1, some v2, some (.ref p4), some (.int x18.1), some (.int x18.2), some (.int amount29), some v37]) rfl ?_
          obtain ⟨b42, hb42, hs30⟩ := Mi.bnd hs30
          refine q_if (ans_orO (ans_t (val_isN r38 (val_var rfl))) hb42 (fun hs39 => by (obtain ⟨x40, hx40, hs39⟩ := Mi.bnd hs39; obtain ⟨x41, hx41, hs39⟩ := Mi.bnd hs39; obtain ⟨_, rfl⟩ := opt_int r38 hx41; cases hs39; exact (ans_t (val_gt (val_var rfl) (itm_LI r6 hx40 (val_var rfl) (val_neg val_c))))))) (fun hb => ?_) (fun hb => ?_)
          ·
            replace hs30 := Mi.ifT hb hs30
            refine q_ret ?_
            refine c_val val_c ?_
            obtain rfl := Option.some.inj hs30
            obtain rfl := Option.some.inj (Mi.orL_inl hbe11)
            obtain rfl := Mi.or_inl hore11
            obtain rfl := Option.some.inj (Mi.orR_inl hm)
            exact hQ _ _ _ c0 opt_n nil_fresh 
          replace hs30 := Mi.ifF hb hs30
          refine w_fall ?_
          obtain ⟨x43, hx43, hs30⟩ := Mi.bnd hs30
          obtain ⟨x44, hx44, hs30⟩ := Mi.bnd hs30
          obtain ⟨_, rfl⟩ := opt_int r38 hx44
          obtain ⟨amount45, hamount45, hs30⟩ := Mi.letE hs30
          refine q_setE (val_sub (itm_LI r6 hx43 (val_var rfl) (val_neg val_c)) (val_var rfl)) (congrArg V.int hamount45) (σ' := [some v0, some v1, some v2, some (.ref p4), some (.int x18.1), some (.int x18.2), some (.int amount45), some (.int x44)]) rfl ?_
          refine w_nextJ ?_
          obtain rfl := Option.some.inj hs30
          exact kx _ _ ⟨_, (some (.int x44)), rfl, rfl, c0, r0, r1, r2, r6⟩
        ·
          replace hs30 := Mi.ifF hb hs30
          refine w_nextJ ?_
          obtain rfl := Option.some.inj hs30
          exact kx _ _ ⟨_, y16, rfl, rfl, c0, r0, r1, r2, r6⟩
      obtain ⟨s31, y32, rfl, rfl, c0, r0, r1, r2, r6⟩ := hj
      replace hbe11 := Mi.orL_inr hbe11
      refine q_drop (w_bm (c_val (val_var rfl) ⟨tyv_lst r6, ?_⟩))
      refine w_cons ?_
      refine w_call ?_
      refine w_args (va_cons (val_var rfl) (va_cons (val_var rfl) (va_cons (val_var rfl) (va_cons (val_var rfl) va_nil)))) ?_
      obtain ⟨q46, hq46, hbe11⟩ := Mi.bnd hbe11
      refine ⟨v0, d0, v1, d1, x18.2, s31, q46, rfl, r0, r1, hq46, fun H48 c47  => ?_⟩
      have r0 := Ty.fz r0 c47
      have r1 := Ty.fz r1 c47
      have r2 := Ty.ex r2 c47
      have r6 := Ty.ex r6 c47
      have c0 := c0.trans c47.none
      refine w_nil ?_
      obtain ⟨x49, hx49, hbe11⟩ := Mi.bnd hbe11
      refine m_app r6 yInt_i hx49 fun H51 c50 r6 => ?_
      have r0 := Ty.fz r0 c50
      have r1 := Ty.fz r1 c50
      have r2 := Ty.chg r2 c50 d9
      have c0 := c0.join c50 (fun a h => .inr (n10 a h))
      refine w_nextJ ?_
      obtain rfl := Option.some.inj hbe11
      replace hore11 := Mi.or_inr hore11
      exact ⟨_, (some (.int x18.1)), (some (.int x18.2)), (some (.int s31)), y32, rfl, c0, r0, r1, r2, r6, hore11⟩
    obtain ⟨s12, y13, y14, y15, y16, rfl, c0, r0, r1, r2, r6, hle11⟩ := hp
    obtain rfl := Mi.forR_end hle11
    replace hm := Mi.orR_inr hm
    refine q_ret ?_
    refine c_val (val_var rfl) ?_
    obtain rfl := Option.some.inj hm
    exact hQ _ _ _ c0 (opt_i (nn_lst r6) r6) n10 
abbrev s_l_hand : Stmt := topS 32
abbrev N_l_hand : List Str := ["_law_script", "_law_k", "_law_cell", "_law_rest"]
theorem sc_l_hand : FnScope ["_law_script", "_law_k", "_law_cell", "_law_rest"] ["_law_script", "_law_k"] (defScope s_l_hand) := ⟨rfl, rfl, rfl, by decide +kernel, rfl, by decide +kernel, by decide +kernel⟩
def sp_l_hand (K : PySem.W.Frag) : Sp := fun vs H Q _ => ∃ (v0 : V) (d0 : (List Int)) (d1 : Int) (r : (List Int)), vs = [v0, (.int d1)] ∧ yScr.rep K H [] v0 d0 ∧ Mi.m_l_hand d0 d1 = some r ∧ ∀ v H' F, Chg ([]) H H' → (yLst yInt).rep K H' F v r → (∀ a ∈ F, H a = none) → Q v H'
theorem ok_l_hand (B : Bi mg) (CN : Cs K mg) (D : Dfn K mg "_law_hand" s_l_hand)  : Cal P w K mg "_law_hand" ["_law_script", "_law_k"] 1 (sp_l_hand K) := by
  obtain ⟨f, fd, F, g⟩ := D.ex
  refine ⟨f, fd, g, F.kp, bindsF F (fun _ _ _ _ _ _ us hl => match us, hl with | [_, _], _ => rfl), fun base => F.ok sc_l_hand (fun vs H Q E h => ?_) (fun cdv A outer s H0 vs Q E hr h => ?_)⟩
  · obtain ⟨v0, d0, d1, r, rfl, r0, hm, hQ⟩ := h; rfl
  ·
    obtain ⟨v0, d0, d1, r, rfl, r0, hm, hQ⟩ := h
    refine ⟨_, pss_cons (ps_set (i := 2) sc_l_hand.nd rfl (.inl rfl) pe_int)
      (pss_cons (ps_if (pt_cmpR op_lt (pv 1) (pe_callB (cl_len (K := K)) (by rfl) B.len PySem.boot_len (pa_cons (pv 0) pa_nil)) (nomark _)) (pss_cons (ps_set (i := 2) sc_l_hand.nd rfl (.inl rfl) (pe_ix (ix_l (K := K)) (pv 0) (pv 1) (fun _ _ => rfl)))
      (pss_nil)) (pss_nil))
      (pss_cons (ps_if (pt_cmpR op_lt (pv 2) pe_int (nomark _)) (pss_cons (ps_set (i := 2) sc_l_hand.nd rfl (.inl rfl) (pe_op op_sub pe_int (pe_op op_mul pe_int (pv 2))))
      (pss_nil)) (pss_nil))
      (pss_cons (ps_set (i := 3) sc_l_hand.nd rfl (.inl rfl) pe_int)
      (pss_cons (ps_if (pt_cmpR op_ge (pv 2) (pe_op op_pow pe_int pe_int) (nomark _)) (pss_cons (ps_set (i := 3) sc_l_hand.nd rfl (.inl rfl) (pv 2))
      (pss_nil)) (pss_nil))
      (pss_cons (ps_ret (pe_lst (pa_cons (pv 3) (pa_cons (pe_op op_mod (pe_callTy cl_int (by rfl) B.int (by decide +kernel) (pa_cons (pe_op op_add (pe_op op_add (pv 2) (pe_op op_mul pe_int (pv 1))) pe_int) pa_nil)) pe_int) (pa_cons pe_int pa_nil))))) pss_nil))))), ?_⟩
    have c0 : Chg ([] : List Addr) H0 H0 := Chg.refl H0
    unfold Mi.m_l_hand at hm
    obtain ⟨cell3, hcell3, hm⟩ := Mi.letE hm
    refine q_setE val_c (congrArg V.int hcell3) (σ' := [some v0, some (.int d1), some (.int cell3), none]) rfl ?_
    obtain ⟨s4, hs4, hm⟩ := Mi.bnd hm
    refine s_join (R := fun σ' H' => σ' = [some v0, some (.int d1), some (.int s4), none] ∧ Chg ([] : List Addr) H0 H' ∧ yScr.rep K H' [] v0 d0) (fun nx kx => ?_) (fun σ' H' hj => ?_)
    ·
      refine s_if (ans_t (val_lt (val_var rfl) (val_lenS r0 (val_var rfl)))) (fun hb => ?_) (fun hb => ?_)
      ·
        replace hs4 := Mi.ifT hb hs4
        obtain ⟨x5, hx5, hs4⟩ := Mi.bnd hs4
        obtain ⟨cell6, hcell6, hs4⟩ := Mi.letE hs4
        refine q_setE (itm_S r0 hx5 (val_var rfl) (val_var rfl)) (congrArg V.int hcell6) (σ' := [some v0, some (.int d1), some (.int cell6), none]) rfl ?_
        refine w_nextJ ?_
        obtain rfl := Option.some.inj hs4
        exact kx _ _ ⟨rfl, c0, r0⟩
      ·
        replace hs4 := Mi.ifF hb hs4
        refine w_nextJ ?_
        obtain rfl := Option.some.inj hs4
        exact kx _ _ ⟨rfl, c0, r0⟩
    obtain ⟨rfl, c0, r0⟩ := hj
    obtain ⟨s7, hs7, hm⟩ := Mi.bnd hm
    refine s_join (R := fun σ' H' => σ' = [some v0, some (.int d1), some (.int s7), none] ∧ Chg ([] : List Addr) H0 H' ∧ yScr.rep K H' [] v0 d0) (fun nx kx => ?_) (fun σ' H' hj => ?_)
    ·
      refine s_if (ans_t (val_lt (val_var rfl) val_c)) (fun hb => ?_) (fun hb => ?_)
      ·
        replace hs7 := Mi.ifT hb hs7
        obtain ⟨cell8, hcell8, hs7⟩ := Mi.letE hs7
        refine q_setE (val_sub val_c (val_mulL val_c (val_var rfl) ⟨by decide, by decide⟩)) (congrArg V.int hcell8) (σ' := [some v0, some (.int d1), some (.int cell8), none]) rfl ?_
        refine w_nextJ ?_
        obtain rfl := Option.some.inj hs7
        exact kx _ _ ⟨rfl, c0, r0⟩
      ·
        replace hs7 := Mi.ifF hb hs7
        refine w_nextJ ?_
        obtain rfl := Option.some.inj hs7
        exact kx _ _ ⟨rfl, c0, r0⟩
    obtain ⟨rfl, c0, r0⟩ := hj
    obtain ⟨rest9, hrest9, hm⟩ := Mi.letE hm
    refine q_setE val_c (congrArg V.int hrest9) (σ' := [some v0, some (.int d1), some (.int s7), some (.int rest9)]) rfl ?_
    obtain ⟨s10, hs10, hm⟩ := Mi.bnd hm
    refine s_join (R := fun σ' H' => σ' = [some v0, some (.int d1), some (.int s7), some (.int s10)] ∧ Chg ([] : List Addr) H0 H' ∧ yScr.rep K H' [] v0 d0) (fun nx kx => ?_) (fun σ' H' hj => ?_)
    ·
      refine s_if (ans_t (val_ge (val_var rfl) (val_pow (n := 18) val_c val_c rfl (by decide) (by decide)))) (fun hb => ?_) (fun hb => ?_)
      ·
        replace hs10 := Mi.ifT hb hs10
        obtain ⟨rest11, hrest11, hs10⟩ := Mi.letE hs10
        refine q_setE (val_var rfl) (congrArg V.int hrest11) (σ' := [some v0, some (.int d1), some (.int s7), some (.int rest11)]) rfl ?_
        refine w_nextJ ?_
        obtain rfl := Option.some.inj hs10
        exact kx _ _ ⟨rfl, c0, r0⟩
      ·
        replace hs10 := Mi.ifF hb hs10
        refine w_nextJ ?_
        obtain rfl := Option.some.inj hs10
        exact kx _ _ ⟨rfl, c0, r0⟩
    obtain ⟨rfl, c0, r0⟩ := hj
    refine q_ret ?_
    refine w_lst ?_
    refine w_args (va_cons (val_var rfl) (va_cons (val_modc (val_int (val_add (val_add (val_var rfl) (val_mulL val_c (val_var rfl) ⟨by decide, by decide⟩)) val_c)) val_c (by decide)) (va_cons val_c va_nil))) ?_
    refine e_lst (K := K) (τ := yInt) (by exact Nat.le_of_ble_eq_true rfl) (.cons yInt_i (.cons yInt_i (.cons yInt_i .nil))) fun p12 H16 np15 c13 r14 => ?_
    have n17 : ∀ a ∈ [p12], H0 a = none := one_fresh (c0.dom p12 np15)
    have r0 := Ty.fz r0 c13
    have c0 := c0.trans c13.none
    obtain rfl := Option.some.inj hm
    exact hQ _ _ _ c0 r14 n17 
abbrev s_l_pick : Stmt := topS 33
abbrev N_l_pick : List Str := ["_law_hand_here", "_law_size", "_law_digit", "_law_mixed"]
theorem sc_l_pick : FnScope ["_law_hand_here", "_law_size", "_law_digit", "_law_mixed"] ["_law_hand_here", "_law_size"] (defScope s_l_pick) := ⟨rfl, rfl, rfl, by decide +kernel, rfl, by decide +kernel, by decide +kernel⟩
def sp_l_pick (K : PySem.W.Frag) : Sp := fun vs H Q _ => ∃ (v0 : V) (F0 : List Addr) (d0 : (List Int)) (d1 : Int) (r : (Int × (List Int))), vs = [v0, (.int d1)] ∧ (yLst yInt).rep K H F0 v0 d0 ∧ Mi.m_l_pick d0 d1 = some r ∧ ∀ H', Chg (F0) H H' → (yLst yInt).rep K H' F0 v0 r.2 → Q (.int r.1) H'
theorem ok_l_pick (B : Bi mg) (CN : Cs K mg) (D : Dfn K mg "_law_pick" s_l_pick)  : Cal P w K mg "_law_pick" ["_law_hand_here", "_law_size"] 1 (sp_l_pick K) := by
  obtain ⟨f, fd, F, g⟩ := D.ex
  refine ⟨f, fd, g, F.kp, bindsF F (fun _ _ _ _ _ _ us hl => match us, hl with | [_, _], _ => rfl), fun base => F.ok sc_l_pick (fun vs H Q E h => ?_) (fun cdv A outer s H0 vs Q E hr h => ?_)⟩
  · obtain ⟨v0, F0, d0, d1, r, rfl, r0, hm, hQ⟩ := h; rfl
  ·
    obtain ⟨v0, F0, d0, d1, r, rfl, r0, hm, hQ⟩ := h
    refine ⟨_, pss_cons (ps_if (pt_cmpR op_lt (pv 1) pe_int (nomark _)) (pss_cons (ps_ret pe_int) pss_nil) (pss_nil))
      (pss_cons (ps_if (pt_cmpR op_gt (pe_ix (ix_l (K := K)) (pv 0) pe_int (fun _ _ => rfl)) pe_int (nomark _)) (pss_cons (ps_set (i := 2) sc_l_pick.nd rfl (.inl rfl) (pe_op op_mod (pe_callTy cl_int (by rfl) B.int (by decide +kernel) (pa_cons (pe_ix (ix_l (K := K)) (pv 0) pe_int (fun _ _ => rfl)) pa_nil)) (pv 1)))
      (pss_cons (ps_asg (pe_op op_fdivW (pe_ix (ix_l (K := K)) (pv 0) pe_int (fun _ _ => rfl)) (pv 1)) (pg_sub (pv 0) pe_int set_list))
      (pss_cons (ps_ret (pv 2)) pss_nil))) (pss_nil))
      (pss_cons (ps_asg (pe_op op_add (pe_ix (ix_l (K := K)) (pv 0) pe_int (fun _ _ => rfl)) pe_int) (pg_sub (pv 0) pe_int set_list))
      (pss_cons (ps_set (i := 3) sc_l_pick.nd rfl (.inl rfl) (pe_op op_mod (pe_callTy cl_int (by rfl) B.int (by decide +kernel) (pa_cons (pe_op op_add (pe_op op_add (pe_ix (ix_l (K := K)) (pv 0) pe_int (fun _ _ => rfl)) (pe_op op_mul pe_int (pe_ix (ix_l (K := K)) (pv 0) pe_int (fun _ _ => rfl)))) pe_int) pa_nil)) pe_int))
      (pss_cons (ps_set (i := 3) sc_l_pick.nd rfl (.inl rfl) (pe_op op_mod (pe_callTy cl_int (by rfl) B.int (by decide +kernel) (pa_cons (pe_op op_mul (pv 3) (pe_op op_add (pv 3) pe_int)) pa_nil)) pe_int))
      (pss_cons (ps_set (i := 3) sc_l_pick.nd rfl (.inl rfl) (pe_op op_mod (pe_callTy cl_int (by rfl) B.int (by decide +kernel) (pa_cons (pe_op op_add (pe_op op_mul (pv 3) (pe_op op_add (pv 3) pe_int)) (pe_op op_mul pe_int (pe_ix (ix_l (K := K)) (pv 0) pe_int (fun _ _ => rfl)))) pa_nil)) pe_int))
      (pss_cons (ps_ret (pe_op op_mod (pe_callTy cl_int (by rfl) B.int (by decide +kernel) (pa_cons (pe_op op_fdiv (pv 3) pe_int) pa_nil)) (pv 1))) pss_nil)))))), ?_⟩
    have c0 : Chg (F0) H0 H0 := Chg.refl H0
    unfold Mi.m_l_pick at hm
    refine q_if (ans_t (val_lt (val_var rfl) val_c)) (fun hb => ?_) (fun hb => ?_)
    ·
      replace hm := Mi.ifT hb hm
      refine q_ret ?_
      refine c_val val_c ?_
      obtain rfl := Option.some.inj hm
      exact hQ _ c0 r0
    replace hm := Mi.ifF hb hm
    refine w_fall ?_
    obtain ⟨x3, hx3, hm⟩ := Mi.bnd hm
    refine q_if (ans_t (val_gt (itm_LI r0 hx3 (val_var rfl) val_c) val_c)) (fun hb => ?_) (fun hb => ?_)
    ·
      replace hm := Mi.ifT hb hm
      obtain ⟨x4, hx4, hm⟩ := Mi.bnd hm
      obtain ⟨x5, hx5, hm⟩ := Mi.bnd hm
      obtain ⟨digit6, hdigit6, hm⟩ := Mi.letE hm
      refine q_setE (val_mod (val_int (itm_LI r0 hx4 (val_var rfl) val_c)) (val_var rfl) hx5) (congrArg V.int hdigit6) (σ' := [some v0, some (.int d1), some (.int digit6), none]) rfl ?_
      refine q_asg ?_
      obtain ⟨x7, hx7, hm⟩ := Mi.bnd hm
      obtain ⟨x8, hx8, hm⟩ := Mi.bnd hm
      refine c_val (val_fdiv (itm_LI r0 hx7 (val_var rfl) val_c) (val_var rfl) hx8) ?_
      refine w_gsub ?_
      refine c_val (val_var rfl) ?_
      refine c_val val_c ?_
      obtain ⟨x9, hx9, hm⟩ := Mi.bnd hm
      refine m_set r0 yInt_i hx9 fun H11 c10 r0 => ?_
      have c0 := c0.join c10 (fun a h => .inl (h))
      refine q_ret ?_
      refine c_val (val_var rfl) ?_
      obtain rfl := Option.some.inj hm
      exact hQ _ c0 r0
    replace hm := Mi.ifF hb hm
    refine w_fall ?_
    refine q_asg ?_
    obtain ⟨x12, hx12, hm⟩ := Mi.bnd hm
    refine c_val (val_add (itm_LI r0 hx12 (val_var rfl) val_c) val_c) ?_
    refine w_gsub ?_
    refine c_val (val_var rfl) ?_
    refine c_val val_c ?_
    obtain ⟨x13, hx13, hm⟩ := Mi.bnd hm
    refine m_set r0 yInt_i hx13 fun H15 c14 r0 => ?_
    have c0 := c0.join c14 (fun a h => .inl (h))
    obtain ⟨x16, hx16, hm⟩ := Mi.bnd hm
    obtain ⟨x17, hx17, hm⟩ := Mi.bnd hm
    obtain ⟨mixed18, hmixed18, hm⟩ := Mi.letE hm
    refine q_setE (val_modc (val_int (val_add (val_add (itm_LI r0 hx16 (val_var rfl) val_c) (val_mulL val_c (itm_LI r0 hx17 (val_var rfl) val_c) ⟨by decide, by decide⟩)) val_c)) val_c (by decide)) (congrArg V.int hmixed18) (σ' := [some v0, some (.int d1), none, some (.int mixed18)]) rfl ?_
    obtain ⟨x19, hx19, hm⟩ := Mi.bnd hm
    obtain ⟨mixed20, hmixed20, hm⟩ := Mi.letE hm
    refine q_setE (val_modc (val_int (val_mul (val_var rfl) (val_add (val_var rfl) val_c) hx19)) val_c (by decide)) (congrArg V.int hmixed20) (σ' := [some v0, some (.int d1), none, some (.int mixed20)]) rfl ?_
    obtain ⟨x21, hx21, hm⟩ := Mi.bnd hm
    obtain ⟨x22, hx22, hm⟩ := Mi.bnd hm
    obtain ⟨mixed23, hmixed23, hm⟩ := Mi.letE hm
    refine q_setE (val_modc (val_int (val_add (val_mul (val_var rfl) (val_add (val_var rfl) val_c) hx21) (val_mulL val_c (itm_LI r0 hx22 (val_var rfl) val_c) ⟨by decide, by decide⟩))) val_c (by decide)) (congrArg V.int hmixed23) (σ' := [some v0, some (.int d1), none, some (.int mixed23)]) rfl ?_
    refine q_ret ?_
    obtain ⟨x24, hx24, hm⟩ := Mi.bnd hm
    refine c_val (val_mod (val_int (val_divc (val_var rfl) val_c ⟨by decide, by decide⟩)) (val_var rfl) hx24) ?_
    obtain rfl := Option.some.inj hm
    exact hQ _ c0 r0
abbrev s_l_int : Stmt := topS 34
abbrev N_l_int : List Str := ["_law_x"]
theorem sc_l_int : FnScope ["_law_x"] ["_law_x"] (defScope s_l_int) := ⟨rfl, rfl, rfl, by decide +kernel, rfl, by decide +kernel, by decide +kernel⟩
def sp_l_int (K : PySem.W.Frag) : Sp := fun vs H Q _ => (∃ (d0 : Int) (r : Bool), vs = [(.int d0)] ∧ Mi.m_l_int_0 d0 = some r ∧ ∀ H', Chg ([]) H H' → Q (.bl r) H') ∨ (∃ (v0 : V) (d0 : (Option Int)) (r : Bool), vs = [v0] ∧ (yOpt yInt).rep K H [] v0 d0 ∧ Mi.m_l_int_1 d0 = some r ∧ ∀ H', Chg ([]) H H' → Q (.bl r) H')
theorem ok_l_int (B : Bi mg) (CN : Cs K mg) (D : Dfn K mg "_law_int" s_l_int)  : Cal P w K mg "_law_int" ["_law_x"] 1 (sp_l_int K) := by
  obtain ⟨f, fd, F, g⟩ := D.ex
  refine ⟨f, fd, g, F.kp, bindsF F (fun _ _ _ _ _ _ us hl => match us, hl with | [_], _ => rfl), fun base => F.ok sc_l_int (fun vs H Q E h => ?_) (fun cdv A outer s H0 vs Q E hr h => ?_)⟩
  · rcases h with ⟨d0, r, rfl, hm, hQ⟩ | ⟨v0, d0, r, rfl, r0, hm, hQ⟩
    all_goals rfl
  · rcases h with h | h
    ·
      obtain ⟨d0, r, rfl, hm, hQ⟩ := h
      refine ⟨_, pss_cons (ps_ret (pe_and (pe_callB (cl_isi (K := K)) (by rfl) B.isinstance (by decide +kernel) (pa_cons (pv 0) (pa_cons (pe_bltn (v := .ty "int") (by rfl) B.int (by decide +kernel) rfl) pa_nil))) (pe_one (pe_not (pe_callB (cl_isi (K := K)) (by rfl) B.isinstance (by decide +kernel) (pa_cons (pv 0) (pa_cons (pe_bltn (v := .ty "bool") (by rfl) B.bool (by decide +kernel) rfl) pa_nil))))))) pss_nil, ?_⟩
      have c0 : Chg ([] : List Addr) H0 H0 := Chg.refl H0
      unfold Mi.m_l_int_0 at hm
      refine q_ret ?_
      refine c_val (val_andV (val_isi (val_var rfl) ty_int (n := "int") (m := "int") (b := true) (by decide +kernel)) (fun _ => (val_notV (val_isi (val_var rfl) ty_int (n := "int") (m := "bool") (b := false) (by decide +kernel))))) ?_
      obtain rfl := Option.some.inj hm
      exact hQ _ c0 
    ·
      obtain ⟨v0, d0, r, rfl, r0, hm, hQ⟩ := h
      refine ⟨_, pss_cons (ps_ret (pe_and (pe_callB (cl_isi (K := K)) (by rfl) B.isinstance (by decide +kernel) (pa_cons (pv 0) (pa_cons (pe_bltn (v := .ty "int") (by rfl) B.int (by decide +kernel) rfl) pa_nil))) (pe_one (pe_not (pe_callB (cl_isi (K := K)) (by rfl) B.isinstance (by decide +kernel) (pa_cons (pv 0) (pa_cons (pe_bltn (v := .ty "bool") (by rfl) B.bool (by decide +kernel) rfl) pa_nil))))))) pss_nil, ?_⟩
      have c0 : Chg ([] : List Addr) H0 H0 := Chg.refl H0
      unfold Mi.m_l_int_1 at hm
      refine q_ret ?_
      refine c_val (val_andV (val_isiO (n := "int") (m := "int") (b := true) tyr_int r0 (val_var rfl) (by decide +kernel) (by decide +kernel)) (fun _ => (val_notV (val_isiO (n := "int") (m := "bool") (b := false) tyr_int r0 (val_var rfl) (by decide +kernel) (by decide +kernel))))) ?_
      obtain rfl := Option.some.inj hm
      exact hQ _ c0 
abbrev s_l_some : Stmt := topS 35
abbrev N_l_some : List Str := ["_law_hand_here", "_law_size", "_law_share", "_law_zone", "_law_place"]
theorem sc_l_some : FnScope ["_law_hand_here", "_law_size", "_law_share", "_law_zone", "_law_place"] ["_law_hand_here", "_law_size", "_law_share"] (defScope s_l_some) := ⟨rfl, rfl, rfl, by decide +kernel, rfl, by decide +kernel, by decide +kernel⟩
def sp_l_some (K : PySem.W.Frag) : Sp := fun vs H Q _ => ∃ (v0 : V) (F0 : List Addr) (d0 : (List Int)) (d1 : Int) (d2 : Int) (r : ((List Int) × (List Int))), vs = [v0, (.int d1), (.int d2)] ∧ (yLst yInt).rep K H F0 v0 d0 ∧ Mi.m_l_some d0 d1 d2 = some r ∧ ∀ v H' F, Chg (F0) H H' → (yLst yInt).rep K H' F v r.1 → (∀ a ∈ F, H a = none) → (yLst yInt).rep K H' F0 v0 r.2 → Q v H'
theorem ok_l_some (B : Bi mg) (CN : Cs K mg) (D : Dfn K mg "_law_some" s_l_some) (C_l_pick : Cal P w K mg "_law_pick" ["_law_hand_here", "_law_size"] 1 (sp_l_pick K)) : Cal P w K mg "_law_some" ["_law_hand_here", "_law_size", "_law_share"] 2 (sp_l_some K) := by
  obtain ⟨f, fd, F, g⟩ := D.ex
  refine ⟨f, fd, g, F.kp, bindsF F (fun _ _ _ _ _ _ us hl => match us, hl with | [_, _, _], _ => rfl), fun base => F.ok sc_l_some (fun vs H Q E h => ?_) (fun cdv A outer s H0 vs Q E hr h => ?_)⟩
  · obtain ⟨v0, F0, d0, d1, d2, r, rfl, r0, hm, hQ⟩ := h; rfl
  ·
    obtain ⟨v0, F0, d0, d1, d2, r, rfl, r0, hm, hQ⟩ := h
    refine ⟨_, pss_cons (ps_set (i := 3) sc_l_some.nd rfl (.inl rfl) (pe_lst pa_nil))
      (pss_cons (ps_for PassesOwn.never rfl (pi_range1 (by rfl) B.range (pa_cons (pv 1) pa_nil)) (pg_name (i := 4) sc_l_some.nd rfl (.inl rfl)) (pss_cons (ps_if (pt_cmpR op_eq (pe_cc C_l_pick hr (pa_cons (pv 0) (pa_cons (pv 2) pa_nil))) pe_int (nomark _)) (pss_cons (ps_expr (pe_bm PySem.F.plainAttrs_list PySem.F.slot_list_append PySem.F.type_list_append mt_append (pv 3) (pa_cons (pv 4) pa_nil)))
      (pss_nil)) (pss_nil))
      (pss_nil)))
      (pss_cons (ps_ret (pv 3)) pss_nil)), ?_⟩
    have c0 : Chg (F0) H0 H0 := Chg.refl H0
    unfold Mi.m_l_some at hm
    refine q_asg ?_
    refine w_lst ?_
    refine w_args va_nil ?_
    refine e_lst (K := K) (τ := yInt) (by exact Nat.le_of_ble_eq_true rfl) .nil fun p4 H8 np7 c5 r6 => ?_
    have d9 : Dj F0 [p4] := Ty.nin r0 np7
    have n10 : ∀ a ∈ [p4], H0 a = none := one_fresh (c0.dom p4 np7)
    have r0 := Ty.ex r0 c5
    have c0 := c0.trans c5.none
    refine g_name (σ' := [some v0, some (.int d1), some (.int d2), some (.ref p4), none]) rfl ?_
    refine q_for ?_
    refine w_iRng1 ?_
    refine w_args (va_cons (val_var rfl) va_nil) ?_
    obtain ⟨g11, hg11, hm⟩ := Mi.bnd hm
    obtain ⟨e12, he12, hm⟩ := Mi.bnd hm
    refine l_rng1 hg11 (fun i σ' H' => ∃ (s13 : ((List Int) × (List Int))) (y14 : Option V), σ' = [some v0, some (.int d1), some (.int d2), some (.ref p4), y14] ∧ Chg (F0) H0 H' ∧ (yLst yInt).rep K H' F0 v0 s13.1 ∧ (yLst yInt).rep K H' [p4] (.ref p4) s13.2 ∧ Mi.forN (Mi.m_l_some_b1 d2) s13 (List.drop i g11) = some e12) ⟨(d0, ([] : (List Int))), none, rfl, c0, r0, r6, he12⟩ (fun i17 x16 σ' H' hx15 hp => ?_) (fun σ' H' hp => ?_)
    ·
      obtain ⟨s13, y14, rfl, c0, r0, r6, hle12⟩ := hp
      obtain ⟨_, hbe12, hle12⟩ := Mi.forN_go hle12 hx15
      unfold Mi.m_l_some_b1 at hbe12
      refine g_name (σ' := [some v0, some (.int d1), some (.int d2), some (.ref p4), some (.int x16)]) rfl ?_
      obtain ⟨s18, hs18, hbe12⟩ := Mi.bnd hbe12
      refine s_join (R := fun σ' H' => σ' = [some v0, some (.int d1), some (.int d2), some (.ref p4), some (.int x16)] ∧ Chg (F0) H0 H' ∧ (yLst yInt).rep K H' F0 v0 s18.1 ∧ (yLst yInt).rep K H' [p4] (.ref p4) s18.2) (fun nx kx => ?_) (fun σ' H' hj => ?_)
      ·
        refine w_ifS ?_
        refine w_test ?_
        refine w_op ?_
        refine w_call ?_
        refine w_args (va_cons (val_var rfl) (va_cons (val_var rfl) va_nil)) ?_
        obtain ⟨q19, hq19, hs18⟩ := Mi.bnd hs18
        refine ⟨v0, F0, s13.1, d2, q19, rfl, r0, hq19, fun H21 c20 r0 => ?_⟩
        have r6 := Ty.chg r6 c20 d9.symm
        have c0 := c0.join c20 (fun a h => .inl (h))
        refine c_val val_c ?_
        refine w_eqI ?_
        refine ⟨_, rfl, ?_⟩
        refine c_if (fun hb => ?_) (fun hb => ?_)
        ·
          replace hs18 := Mi.ifT hb hs18
          refine q_drop (w_bm (c_val (val_var rfl) ⟨tyv_lst r6, ?_⟩))
          refine w_args (va_cons (val_var rfl) va_nil) ?_
          obtain ⟨x22, hx22, hs18⟩ := Mi.bnd hs18
          refine m_app r6 yInt_i hx22 fun H24 c23 r6 => ?_
          have r0 := Ty.chg r0 c23 d9
          have c0 := c0.join c23 (fun a h => .inr (n10 a h))
          refine w_nextJ ?_
          obtain rfl := Option.some.inj hs18
          exact kx _ _ ⟨rfl, c0, r0, r6⟩
        ·
          replace hs18 := Mi.ifF hb hs18
          refine w_nextJ ?_
          obtain rfl := Option.some.inj hs18
          exact kx _ _ ⟨rfl, c0, r0, r6⟩
      obtain ⟨rfl, c0, r0, r6⟩ := hj
      refine w_nextJ ?_
      obtain rfl := Option.some.inj hbe12
      exact ⟨_, (some (.int x16)), rfl, c0, r0, r6, hle12⟩
    obtain ⟨s13, y14, rfl, c0, r0, r6, hle12⟩ := hp
    obtain rfl := Mi.forN_end hle12
    refine q_ret ?_
    refine c_val (val_var rfl) ?_
    obtain rfl := Option.some.inj hm
    exact hQ _ _ _ c0 r6 n10 r0
abbrev s_l_sea : Stmt := topS 36
abbrev N_l_sea : List Str := ["_law_hand_here", "_law_most", "_law_size", "_law_span", "_law_swell", "_law_deeps", "_law_joins", "_law_b", "_law_a", "_law_flows_here", "_law_turn"]
theorem sc_l_sea : FnScope ["_law_hand_here", "_law_most", "_law_size", "_law_span", "_law_swell", "_law_deeps", "_law_joins", "_law_b", "_law_a", "_law_flows_here", "_law_turn"] ["_law_hand_here", "_law_most"] (defScope s_l_sea) := ⟨rfl, rfl, rfl, by decide +kernel, rfl, by decide +kernel, by decide +kernel⟩
def sp_l_sea (K : PySem.W.Frag) : Sp := fun vs H Q _ => ∃ (v0 : V) (F0 : List Addr) (d0 : (List Int)) (d1 : Int) (r : (((List Int) × (List (Int × Int)) × (List Int) × (List Int)) × (List Int))), vs = [v0, (.int d1)] ∧ (yLst yInt).rep K H F0 v0 d0 ∧ Mi.m_l_sea d0 d1 = some r ∧ ∀ v H' F, Chg (F0) H H' → (yTup (sCons (yLst yInt) (sCons (yLst (yTup (sCons yInt (sOne yInt)))) (sCons (yLst yInt) (sOne (yLst yInt)))))).rep K H' F v r.1 → (∀ a ∈ F, H a = none) → (yLst yInt).rep K H' F0 v0 r.2 → Q v H'
theorem ok_l_sea (B : Bi mg) (CN : Cs K mg) (D : Dfn K mg "_law_sea" s_l_sea) (C_l_pick : Cal P w K mg "_law_pick" ["_law_hand_here", "_law_size"] 1 (sp_l_pick K)) (C_l_some : Cal P w K mg "_law_some" ["_law_hand_here", "_law_size", "_law_share"] 2 (sp_l_some K)) : Cal P w K mg "_law_sea" ["_law_hand_here", "_law_most"] 3 (sp_l_sea K) := by
  obtain ⟨f, fd, F, g⟩ := D.ex
  refine ⟨f, fd, g, F.kp, bindsF F (fun _ _ _ _ _ _ us hl => match us, hl with | [_, _], _ => rfl), fun base => F.ok sc_l_sea (fun vs H Q E h => ?_) (fun cdv A outer s H0 vs Q E hr h => ?_)⟩
  · obtain ⟨v0, F0, d0, d1, r, rfl, r0, hm, hQ⟩ := h; rfl
  ·
    obtain ⟨v0, F0, d0, d1, r, rfl, r0, hm, hQ⟩ := h
    refine ⟨_, pss_cons (ps_set (i := 2) sc_l_sea.nd rfl (.inl rfl) (pe_op op_add pe_int (pe_cc C_l_pick hr (pa_cons (pv 0) (pa_cons (pv 1) pa_nil)))))
      (pss_cons (ps_set (i := 3) sc_l_sea.nd rfl (.inl rfl) (pe_ix (ix_l (K := K)) (pe_lst (pa_cons pe_int (pa_cons pe_int (pa_cons pe_int pa_nil)))) (pe_cc C_l_pick hr (pa_cons (pv 0) (pa_cons pe_int pa_nil))) (fun _ _ => rfl)))
      (pss_cons (ps_set (i := 4) sc_l_sea.nd rfl (.inl rfl) (pe_ix (ix_l (K := K)) (pe_lst (pa_cons pe_int (pa_cons pe_int (pa_cons pe_int pa_nil)))) (pe_cc C_l_pick hr (pa_cons (pv 0) (pa_cons pe_int pa_nil))) (fun _ _ => rfl)))
      (pss_cons (ps_set (i := 5) sc_l_sea.nd rfl (.inl rfl) (pe_lst pa_nil))
      (pss_cons (ps_set (i := 6) sc_l_sea.nd rfl (.inl rfl) (pe_lst pa_nil))
      (pss_cons (ps_for PassesOwn.never rfl (pi_range1 (by rfl) B.range (pa_cons (pv 2) pa_nil)) (pg_name (i := 7) sc_l_sea.nd rfl (.inl rfl)) (pss_cons (ps_expr (pe_bm PySem.F.plainAttrs_list PySem.F.slot_list_append PySem.F.type_list_append mt_append (pv 5) (pa_cons (pe_cc C_l_pick hr (pa_cons (pv 0) (pa_cons (pv 3) pa_nil))) pa_nil)))
      (pss_cons (ps_for PassesOwn.never rfl (pi_range1 (by rfl) B.range (pa_cons (pv 7) pa_nil)) (pg_name (i := 8) sc_l_sea.nd rfl (.inl rfl)) (pss_cons (ps_if (pt_cmpR op_gt (pe_cc C_l_pick hr (pa_cons (pv 0) (pa_cons pe_int pa_nil))) pe_int (nomark _)) (pss_cons (ps_expr (pe_bm PySem.F.plainAttrs_list PySem.F.slot_list_append PySem.F.type_list_append mt_append (pv 6) (pa_cons (pe_tup (pa_cons (pv 8) (pa_cons (pv 7) pa_nil))) pa_nil)))
      (pss_nil)) (pss_nil))
      (pss_nil)))
      (pss_nil))))
      (pss_cons (ps_set (i := 9) sc_l_sea.nd rfl (.inl rfl) (pe_lst (pa_cons pe_int pa_nil)))
      (pss_cons (ps_for PassesOwn.never rfl (pi_range1 (by rfl) B.range (pa_cons (pe_cc C_l_pick hr (pa_cons (pv 0) (pa_cons pe_int pa_nil))) pa_nil)) (pg_name (i := 10) sc_l_sea.nd rfl (.inl rfl)) (pss_cons (ps_expr (pe_bm PySem.F.plainAttrs_list PySem.F.slot_list_append PySem.F.type_list_append mt_append (pv 9) (pa_cons (pe_cc C_l_pick hr (pa_cons (pv 0) (pa_cons (pv 4) pa_nil))) pa_nil)))
      (pss_nil)))
      (pss_cons (ps_ret (pe_tup (pa_cons (pv 5) (pa_cons (pv 6) (pa_cons (pv 9) (pa_cons (pe_cc C_l_some hr (pa_cons (pv 0) (pa_cons (pv 2) (pa_cons pe_int pa_nil)))) pa_nil)))))) pss_nil)))))))), ?_⟩
    have c0 : Chg (F0) H0 H0 := Chg.refl H0
    unfold Mi.m_l_sea at hm
    refine q_asg ?_
    refine w_op ?_
    refine c_val val_c ?_
    refine w_call ?_
    refine w_args (va_cons (val_var rfl) (va_cons (val_var rfl) va_nil)) ?_
    obtain ⟨q3, hq3, hm⟩ := Mi.bnd hm
    refine ⟨v0, F0, d0, d1, q3, rfl, r0, hq3, fun H5 c4 r0 => ?_⟩
    have c0 := c0.join c4 (fun a h => .inl (h))
    refine w_I0 ?_
    obtain ⟨size6, hsize6, hm⟩ := Mi.letE hm
    refine g_nameE (congrArg V.int hsize6) (σ' := [some v0, some (.int d1), some (.int size6), none, none, none, none, none, none, none, none]) rfl ?_
    refine q_asg ?_
    refine w_op ?_
    refine w_lst ?_
    refine w_args (va_cons val_c (va_cons val_c (va_cons val_c va_nil))) ?_
    refine e_lst (K := K) (τ := yInt) (by exact Nat.le_of_ble_eq_true rfl) (.cons yInt_i (.cons yInt_i (.cons yInt_i .nil))) fun p7 H11 np10 c8 r9 => ?_
    have d12 : Dj F0 [p7] := Ty.nin r0 np10
    have n13 : ∀ a ∈ [p7], H0 a = none := one_fresh (c0.dom p7 np10)
    have r0 := Ty.ex r0 c8
    have c0 := c0.trans c8.none
    refine w_call ?_
    refine w_args (va_cons (val_var rfl) (va_cons val_c va_nil)) ?_
    obtain ⟨q14, hq14, hm⟩ := Mi.bnd hm
    refine ⟨v0, F0, q3.2, (3 : Int), q14, rfl, r0, hq14, fun H16 c15 r0 => ?_⟩
    have r9 := Ty.chg r9 c15 d12.symm
    have c0 := c0.join c15 (fun a h => .inl (h))
    obtain ⟨x17, hx17, hm⟩ := Mi.bnd hm
    refine w_ixL r9 hx17 fun u18 r19 => ?_
    obtain ⟨_, rfl⟩ := r19
    refine g_name (σ' := [some v0, some (.int d1), some (.int size6), some (.int x17), none, none, none, none, none, none, none]) rfl ?_
    refine q_asg ?_
    refine w_op ?_
    refine w_lst ?_
    refine w_args (va_cons val_c (va_cons val_c (va_cons val_c va_nil))) ?_
    refine e_lst (K := K) (τ := yInt) (by exact Nat.le_of_ble_eq_true rfl) (.cons yInt_i (.cons yInt_i (.cons yInt_i .nil))) fun p20 H24 np23 c21 r22 => ?_
    have d25 : Dj F0 [p20] := Ty.nin r0 np23
    have n26 : ∀ a ∈ [p20], H0 a = none := one_fresh (c0.dom p20 np23)
    have r0 := Ty.ex r0 c21
    have c0 := c0.trans c21.none
    refine w_call ?_
    refine w_args (va_cons (val_var rfl) (va_cons val_c va_nil)) ?_
    obtain ⟨q27, hq27, hm⟩ := Mi.bnd hm
    refine ⟨v0, F0, q14.2, (3 : Int), q27, rfl, r0, hq27, fun H29 c28 r0 => ?_⟩
    have r22 := Ty.chg r22 c28 d25.symm
    have c0 := c0.join c28 (fun a h => .inl (h))
    obtain ⟨x30, hx30, hm⟩ := Mi.bnd hm
    refine w_ixL r22 hx30 fun u31 r32 => ?_
    obtain ⟨_, rfl⟩ := r32
    refine g_name (σ' := [some v0, some (.int d1), some (.int size6), some (.int x17), some (.int x30), none, none, none, none, none, none]) rfl ?_
    refine q_asg ?_
    refine w_lst ?_
    refine w_args va_nil ?_
    refine e_lst (K := K) (τ := yInt) (by exact Nat.le_of_ble_eq_true rfl) .nil fun p33 H37 np36 c34 r35 => ?_
    have d38 : Dj F0 [p33] := Ty.nin r0 np36
    have n39 : ∀ a ∈ [p33], H0 a = none := one_fresh (c0.dom p33 np36)
    have r0 := Ty.ex r0 c34
    have c0 := c0.trans c34.none
    refine g_name (σ' := [some v0, some (.int d1), some (.int size6), some (.int x17), some (.int x30), some (.ref p33), none, none, none, none, none]) rfl ?_
    refine q_asg ?_
    refine w_lst ?_
    refine w_args va_nil ?_
    refine e_lst (K := K) (τ := (yTup (sCons yInt (sOne yInt)))) (by exact Nat.le_of_ble_eq_true rfl) .nil fun p40 H44 np43 c41 r42 => ?_
    have d45 : Dj F0 [p40] := Ty.nin r0 np43
    have d46 : Dj [p33] [p40] := Ty.nin r35 np43
    have n47 : ∀ a ∈ [p40], H0 a = none := one_fresh (c0.dom p40 np43)
    have r0 := Ty.ex r0 c41
    have r35 := Ty.ex r35 c41
    have c0 := c0.trans c41.none
    refine g_name (σ' := [some v0, some (.int d1), some (.int size6), some (.int x17), some (.int x30), some (.ref p33), some (.ref p40), none, none, none, none]) rfl ?_
    refine q_for ?_
    refine w_iRng1 ?_
    refine w_args (va_cons (val_var rfl) va_nil) ?_
    obtain ⟨g48, hg48, hm⟩ := Mi.bnd hm
    obtain ⟨e49, he49, hm⟩ := Mi.bnd hm
    refine l_rng1 hg48 (fun i σ' H' => ∃ (s50 : ((List Int) × (List Int) × (List (Int × Int)))) (y51 : Option V) (y52 : Option V), σ' = [some v0, some (.int d1), some (.int size6), some (.int x17), some (.int x30), some (.ref p33), some (.ref p40), y51, y52, none, none] ∧ Chg (F0) H0 H' ∧ (yLst yInt).rep K H' F0 v0 s50.1 ∧ (yLst yInt).rep K H' [p33] (.ref p33) s50.2.1 ∧ (yLst (yTup (sCons yInt (sOne yInt)))).rep K H' [p40] (.ref p40) s50.2.2 ∧ Mi.forN (Mi.m_l_sea_b1 x17) s50 (List.drop i g48) = some e49) ⟨(q27.2, ([] : (List Int)), ([] : (List (Int × Int)))), none, none, rfl, c0, r0, r35, r42, he49⟩ (fun i55 x54 σ' H' hx53 hp => ?_) (fun σ' H' hp => ?_)
    ·
      obtain ⟨s50, y51, y52, rfl, c0, r0, r35, r42, hle49⟩ := hp
      obtain ⟨_, hbe49, hle49⟩ := Mi.forN_go hle49 hx53
      unfold Mi.m_l_sea_b1 at hbe49
      refine g_name (σ' := [some v0, some (.int d1), some (.int size6), some (.int x17), some (.int x30), some (.ref p33), some (.ref p40), some (.int x54), y52, none, none]) rfl ?_
      refine q_drop (w_bm (c_val (val_var rfl) ⟨tyv_lst r35, ?_⟩))
      refine w_cons ?_
      refine w_call ?_
      refine w_args (va_cons (val_var rfl) (va_cons (val_var rfl) va_nil)) ?_
      obtain ⟨q56, hq56, hbe49⟩ := Mi.bnd hbe49
      refine ⟨v0, F0, s50.1, x17, q56, rfl, r0, hq56, fun H58 c57 r0 => ?_⟩
      have r35 := Ty.chg r35 c57 d38.symm
      have r42 := Ty.chg r42 c57 d45.symm
      have c0 := c0.join c57 (fun a h => .inl (h))
      refine w_nil ?_
      obtain ⟨x59, hx59, hbe49⟩ := Mi.bnd hbe49
      refine m_app r35 yInt_i hx59 fun H61 c60 r35 => ?_
      have r0 := Ty.chg r0 c60 d38
      have r42 := Ty.chg r42 c60 d46.symm
      have c0 := c0.join c60 (fun a h => .inr (n39 a h))
      refine q_for ?_
      refine w_iRng1 ?_
      refine w_args (va_cons (val_var rfl) va_nil) ?_
      obtain ⟨g62, hg62, hbe49⟩ := Mi.bnd hbe49
      obtain ⟨e63, he63, hbe49⟩ := Mi.bnd hbe49
      refine l_rng1 hg62 (fun i σ' H' => ∃ (s64 : ((List Int) × (List (Int × Int)))) (y65 : Option V), σ' = [some v0, some (.int d1), some (.int size6), some (.int x17), some (.int x30), some (.ref p33), some (.ref p40), some (.int x54), y65, none, none] ∧ Chg (F0) H0 H' ∧ (yLst yInt).rep K H' F0 v0 s64.1 ∧ (yLst yInt).rep K H' [p33] (.ref p33) x59 ∧ (yLst (yTup (sCons yInt (sOne yInt)))).rep K H' [p40] (.ref p40) s64.2 ∧ Mi.forN (Mi.m_l_sea_b2 x54) s64 (List.drop i g62) = some e63) ⟨(q56.2, s50.2.2), y52, rfl, c0, r0, r35, r42, he63⟩ (fun i68 x67 σ' H' hx66 hp => ?_) (fun σ' H' hp => ?_)
      ·
        obtain ⟨s64, y65, rfl, c0, r0, r35, r42, hle63⟩ := hp
        obtain ⟨_, hbe63, hle63⟩ := Mi.forN_go hle63 hx66
        unfold Mi.m_l_sea_b2 at hbe63
        refine g_name (σ' := [some v0, some (.int d1), some (.int size6), some (.int x17), some (.int x30), some (.ref p33), some (.ref p40), some (.int x54), some (.int x67), none, none]) rfl ?_
        obtain ⟨s69, hs69, hbe63⟩ := Mi.bnd hbe63
        refine s_join (R := fun σ' H' => σ' = [some v0, some (.int d1), some (.int size6), some (.int x17), some (.int x30), some (.ref p33), some (.ref p40), some (.int x54), some (.int x67), none, none] ∧ Chg (F0) H0 H' ∧ (yLst yInt).rep K H' F0 v0 s69.1 ∧ (yLst yInt).rep K H' [p33] (.ref p33) x59 ∧ (yLst (yTup (sCons yInt (sOne yInt)))).rep K H' [p40] (.ref p40) s69.2) (fun nx kx => ?_) (fun σ' H' hj => ?_)
        ·
          refine w_ifS ?_
          refine w_test ?_
          refine w_op ?_
          refine w_call ?_
          refine w_args (va_cons (val_var rfl) (va_cons val_c va_nil)) ?_
          obtain ⟨q70, hq70, hs69⟩ := Mi.bnd hs69
          refine ⟨v0, F0, s64.1, (4 : Int), q70, rfl, r0, hq70, fun H72 c71 r0 => ?_⟩
          have r35 := Ty.chg r35 c71 d38.symm
          have r42 := Ty.chg r42 c71 d45.symm
          have c0 := c0.join c71 (fun a h => .inl (h))
          refine c_val val_c ?_
          refine w_I0 ?_
          refine ⟨_, rfl, ?_⟩
          refine c_if (fun hb => ?_) (fun hb => ?_)
          ·
            replace hs69 := Mi.ifT hb hs69
            refine q_drop (w_bm (c_val (val_var rfl) ⟨tyv_lst r42, ?_⟩))
            refine w_cons ?_
            refine w_tup ?_
            refine w_args (va_cons (val_var rfl) (va_cons (val_var rfl) va_nil)) ?_
            refine e_tup (K := K) (ty := (sCons yInt (sOne yInt))) (F := []) (d := (x67, x54)) (by exact Nat.le_of_ble_eq_true rfl) ⟨_, _, _, _, rfl, rfl, yInt_i, ⟨_, rfl, yInt_i⟩⟩ fun p73 H77 np76 c74 r75 => ?_
            have r0 := Ty.ex r0 c74
            have r35 := Ty.ex r35 c74
            have r42 := Ty.ex r42 c74
            have c0 := c0.trans c74.none
            refine w_nil ?_
            obtain ⟨x78, hx78, hs69⟩ := Mi.bnd hs69
            refine m_app r42 r75 hx78 fun H80 c79 r42 => ?_
            have r0 := Ty.chg r0 c79 d45
            have r35 := Ty.chg r35 c79 d46
            have c0 := c0.join c79 (fun a h => .inr (n47 a h))
            refine w_nextJ ?_
            obtain rfl := Option.some.inj hs69
            exact kx _ _ ⟨rfl, c0, r0, r35, r42⟩
          ·
            replace hs69 := Mi.ifF hb hs69
            refine w_nextJ ?_
            obtain rfl := Option.some.inj hs69
            exact kx _ _ ⟨rfl, c0, r0, r35, r42⟩
        obtain ⟨rfl, c0, r0, r35, r42⟩ := hj
        refine w_nextJ ?_
        obtain rfl := Option.some.inj hbe63
        exact ⟨_, (some (.int x67)), rfl, c0, r0, r35, r42, hle63⟩
      obtain ⟨s64, y65, rfl, c0, r0, r35, r42, hle63⟩ := hp
      obtain rfl := Mi.forN_end hle63
      refine w_nextJ ?_
      obtain rfl := Option.some.inj hbe49
      exact ⟨_, (some (.int x54)), y65, rfl, c0, r0, r35, r42, hle49⟩
    obtain ⟨s50, y51, y52, rfl, c0, r0, r35, r42, hle49⟩ := hp
    obtain rfl := Mi.forN_end hle49
    refine q_asg ?_
    refine w_lst ?_
    refine w_args (va_cons val_c va_nil) ?_
    refine e_lst (K := K) (τ := yInt) (by exact Nat.le_of_ble_eq_true rfl) (.cons yInt_i .nil) fun p81 H85 np84 c82 r83 => ?_
    have d86 : Dj F0 [p81] := Ty.nin r0 np84
    have d87 : Dj [p33] [p81] := Ty.nin r35 np84
    have d88 : Dj [p40] [p81] := Ty.nin r42 np84
    have n89 : ∀ a ∈ [p81], H0 a = none := one_fresh (c0.dom p81 np84)
    have r0 := Ty.ex r0 c82
    have r35 := Ty.ex r35 c82
    have r42 := Ty.ex r42 c82
    have c0 := c0.trans c82.none
    refine g_name (σ' := [some v0, some (.int d1), some (.int size6), some (.int x17), some (.int x30), some (.ref p33), some (.ref p40), y51, y52, some (.ref p81), none]) rfl ?_
    refine q_for ?_
    refine w_iRng1 ?_
    refine w_cons ?_
    refine w_call ?_
    refine w_args (va_cons (val_var rfl) (va_cons val_c va_nil)) ?_
    obtain ⟨q90, hq90, hm⟩ := Mi.bnd hm
    refine ⟨v0, F0, s50.1, (3 : Int), q90, rfl, r0, hq90, fun H92 c91 r0 => ?_⟩
    have r35 := Ty.chg r35 c91 d38.symm
    have r42 := Ty.chg r42 c91 d45.symm
    have r83 := Ty.chg r83 c91 d86.symm
    have c0 := c0.join c91 (fun a h => .inl (h))
    refine w_nil ?_
    obtain ⟨g93, hg93, hm⟩ := Mi.bnd hm
    obtain ⟨e94, he94, hm⟩ := Mi.bnd hm
    refine l_rng1 hg93 (fun i σ' H' => ∃ (s95 : ((List Int) × (List Int))) (y96 : Option V), σ' = [some v0, some (.int d1), some (.int size6), some (.int x17), some (.int x30), some (.ref p33), some (.ref p40), y51, y52, some (.ref p81), y96] ∧ Chg (F0) H0 H' ∧ (yLst yInt).rep K H' F0 v0 s95.1 ∧ (yLst yInt).rep K H' [p33] (.ref p33) s50.2.1 ∧ (yLst (yTup (sCons yInt (sOne yInt)))).rep K H' [p40] (.ref p40) s50.2.2 ∧ (yLst yInt).rep K H' [p81] (.ref p81) s95.2 ∧ Mi.forN (Mi.m_l_sea_b3 x30) s95 (List.drop i g93) = some e94) ⟨(q90.2, [(0 : Int)]), none, rfl, c0, r0, r35, r42, r83, he94⟩ (fun i99 x98 σ' H' hx97 hp => ?_) (fun σ' H' hp => ?_)
    ·
      obtain ⟨s95, y96, rfl, c0, r0, r35, r42, r83, hle94⟩ := hp
      obtain ⟨_, hbe94, hle94⟩ := Mi.forN_go hle94 hx97
      unfold Mi.m_l_sea_b3 at hbe94
      refine g_name (σ' := [some v0, some (.int d1), some (.int size6), some (.int x17), some (.int x30), some (.ref p33), some (.ref p40), y51, y52, some (.ref p81), some (.int x98)]) rfl ?_
      refine q_drop (w_bm (c_val (val_var rfl) ⟨tyv_lst r83, ?_⟩))
      refine w_cons ?_
      refine w_call ?_
      refine w_args (va_cons (val_var rfl) (va_cons (val_var rfl) va_nil)) ?_
      obtain ⟨q100, hq100, hbe94⟩ := Mi.bnd hbe94
      refine ⟨v0, F0, s95.1, x30, q100, rfl, r0, hq100, fun H102 c101 r0 => ?_⟩
      have r35 := Ty.chg r35 c101 d38.symm
      have r42 := Ty.chg r42 c101 d45.symm
      have r83 := Ty.chg r83 c101 d86.symm
      have c0 := c0.join c101 (fun a h => .inl (h))
      refine w_nil ?_
      obtain ⟨x103, hx103, hbe94⟩ := Mi.bnd hbe94
      refine m_app r83 yInt_i hx103 fun H105 c104 r83 => ?_
      have r0 := Ty.chg r0 c104 d86
      have r35 := Ty.chg r35 c104 d87
      have r42 := Ty.chg r42 c104 d88
      have c0 := c0.join c104 (fun a h => .inr (n89 a h))
      refine w_nextJ ?_
      obtain rfl := Option.some.inj hbe94
      exact ⟨_, (some (.int x98)), rfl, c0, r0, r35, r42, r83, hle94⟩
    obtain ⟨s95, y96, rfl, c0, r0, r35, r42, r83, hle94⟩ := hp
    obtain rfl := Mi.forN_end hle94
    refine q_ret ?_
    refine w_tup ?_
    refine w_cons ?_
    refine c_val (val_var rfl) ?_
    refine w_cons ?_
    refine c_val (val_var rfl) ?_
    refine w_cons ?_
    refine c_val (val_var rfl) ?_
    refine w_cons ?_
    refine w_call ?_
    refine w_args (va_cons (val_var rfl) (va_cons (val_var rfl) (va_cons val_c va_nil))) ?_
    obtain ⟨q106, hq106, hm⟩ := Mi.bnd hm
    have r0_old := r0
    refine ⟨v0, F0, s95.1, size6, (4 : Int), q106, rfl, r0, hq106, fun v109 H108 F111 c107 r110 fr112 r0 => ?_⟩
    have d113 : Dj F0 F111 := Ty.fresh r0_old fr112
    have d114 : Dj [p33] F111 := Ty.fresh r35 fr112
    have d115 : Dj [p40] F111 := Ty.fresh r42 fr112
    have d116 : Dj [p81] F111 := Ty.fresh r83 fr112
    have n117 : ∀ a ∈ F111, H0 a = none := fun a h => c0.dom a (fr112 a h)
    have r35 := Ty.chg r35 c107 d38.symm
    have r42 := Ty.chg r42 c107 d45.symm
    have r83 := Ty.chg r83 c107 d86.symm
    have c0 := c0.join c107 (fun a h => .inl (h))
    refine w_nil ?_
    refine e_tup (K := K) (ty := (sCons (yLst yInt) (sCons (yLst (yTup (sCons yInt (sOne yInt)))) (sCons (yLst yInt) (sOne (yLst yInt)))))) (F := ([p33] ++ ([p40] ++ ([p81] ++ F111)))) (d := (s50.2.1, s50.2.2, s95.2, q106.1)) (by exact Nat.le_of_ble_eq_true rfl) ⟨_, _, _, _, rfl, rfl, r35, ⟨_, _, _, _, rfl, rfl, r42, ⟨_, _, _, _, rfl, rfl, r83, ⟨_, rfl, r110⟩⟩⟩⟩ fun p118 H122 np121 c119 r120 => ?_
    have r0 := Ty.ex r0 c119
    have r35 := Ty.ex r35 c119
    have r42 := Ty.ex r42 c119
    have r83 := Ty.ex r83 c119
    have r110 := Ty.ex r110 c119
    have c0 := c0.trans c119.none
    have d123 : Dj ([p33] ++ ([p40] ++ ([p81] ++ F111))) F0 := (Dj.app (d38.symm) ((Dj.app (d45.symm) ((Dj.app (d86.symm) (d113.symm))))))
    obtain rfl := Option.some.inj hm
    exact hQ _ _ _ c0 r120 (app_fresh n39 (app_fresh n47 (app_fresh n89 n117))) r0
abbrev s_l_chart : Stmt := topS 37
abbrev N_l_chart : List Str := ["_law_sea_here", "_law_parts", "_law_chart_here", "_law_part"]
theorem sc_l_chart : FnScope ["_law_sea_here", "_law_parts", "_law_chart_here", "_law_part"] ["_law_sea_here"] (defScope s_l_chart) := ⟨rfl, rfl, rfl, by decide +kernel, rfl, by decide +kernel, by decide +kernel⟩
def sp_l_chart (K : PySem.W.Frag) (C_Chart : Addr) : Sp := fun vs H Q _ => ∃ (v0 : V) (F0 : List Addr) (d0 : ((List Int) × (List (Int × Int)) × (List Int) × (List Int))) (r : (Int × (List Int) × (List (Int × Int)) × (List Int) × (List Int) × (List (List Int)))), vs = [v0] ∧ (yTup (sCons (yLst yInt) (sCons (yLst (yTup (sCons yInt (sOne yInt)))) (sCons (yLst yInt) (sOne (yLst yInt)))))).rep K H F0 v0 d0 ∧ Mi.m_l_chart d0 = some r ∧ ∀ v H', Chg ([]) H H' → (yObj C_Chart nm_Chart ty_Chart).rep K H' [] v r → Q v H'
theorem ok_l_chart (B : Bi mg) (CN : Cs K mg) (D : Dfn K mg "_law_chart" s_l_chart) {C_Chart : Addr} (T_Chart : Tx K mg C_Chart "Chart" nm_Chart) (I_Chart : CalI P w K mg C_Chart "Chart.__init__" s_Chart_init (kw_Chart K) ["self", "depths", "lanes", "tide", "harbours"] 3 (sp_Chart_init K C_Chart)) : Cal P w K mg "_law_chart" ["_law_sea_here"] 5 (sp_l_chart K C_Chart) := by
  obtain ⟨f, fd, F, g⟩ := D.ex
  refine ⟨f, fd, g, F.kp, bindsF F (fun _ _ _ _ _ _ us hl => match us, hl with | [_], _ => rfl), fun base => F.ok sc_l_chart (fun vs H Q E h => ?_) (fun cdv A outer s H0 vs Q E hr h => ?_)⟩
  · obtain ⟨v0, F0, d0, r, rfl, r0, hm, hQ⟩ := h; rfl
  ·
    obtain ⟨v0, F0, d0, r, rfl, r0, hm, hQ⟩ := h
    obtain ⟨fI_Chart, fdI_Chart, MI_Chart, FI_Chart, OI_Chart⟩ := I_Chart.ex
    obtain ⟨mv_kb_Chart_2_tide_harbours, kb_Chart_2_tide_harbours⟩ := FunD.kbinds0 (ps := ["self", "depths", "lanes", "tide", "harbours"]) FI_Chart 3 ["tide", "harbours"] [] (fun us mv ws => permG [0, 1, 2, 3, 4] us mv ws) (by intro z; cases z) (fun q hq => nomatch hq) (fun r1 r2 r3 => permG_rel _ r1 r2 r3) (fun _ _ _ _ _ _ us mv ws h1 h2 h3 => match us, mv, ws, h1, h2, h3 with | [_, _, _], [], [_, _], _, _, _ => rfl)
    refine ⟨_, pss_cons (ps_set (i := 1) sc_l_chart.nd rfl (.inl rfl) (pe_lst (pa_cons (pe_callTy (cl_list (K := K)) (by rfl) B.list (by decide +kernel) (pa_cons (pe_ix (ix_t (K := K)) (pv 0) pe_int (fun _ _ => rfl)) pa_nil)) (pa_cons (pe_callTy (cl_list (K := K)) (by rfl) B.list (by decide +kernel) (pa_cons (pe_ix (ix_t (K := K)) (pv 0) pe_int (fun _ _ => rfl)) pa_nil)) (pa_cons (pe_callTy (cl_list (K := K)) (by rfl) B.list (by decide +kernel) (pa_cons (pe_ix (ix_t (K := K)) (pv 0) pe_int (fun _ _ => rfl)) pa_nil)) (pa_cons (pe_callTy (cl_list (K := K)) (by rfl) B.list (by decide +kernel) (pa_cons (pe_ix (ix_t (K := K)) (pv 0) pe_int (fun _ _ => rfl)) pa_nil)) pa_nil))))))
      (pss_cons (ps_set (i := 2) sc_l_chart.nd rfl (.inl rfl) (pe_makeK MI_Chart (OI_Chart base) (hr.mono (by decide)) (by rfl) T_Chart.mgC kb_Chart_2_tide_harbours pass0 (pa_cons (pe_ix (ix_l (K := K)) (pv 1) pe_int (fun _ _ => rfl)) (pa_cons (pe_ix (ix_l (K := K)) (pv 1) pe_int (fun _ _ => rfl)) pa_nil)) (pk_cons (pe_ix (ix_l (K := K)) (pv 1) pe_int (fun _ _ => rfl)) (pk_cons (pe_ix (ix_l (K := K)) (pv 1) pe_int (fun _ _ => rfl)) pk_nil))))
      (pss_cons (ps_for PassesOwn.never rfl (pi_list (pv 1)) (pg_name (i := 3) sc_l_chart.nd rfl (.inl rfl)) (pss_cons (ps_expr (pe_bm0 PySem.F.plainAttrs_list PySem.F.slot_list_clear PySem.F.type_list_clear mt_clear (pv 3))) pss_nil))
      (pss_cons (ps_ret (pv 2)) pss_nil))), ?_⟩
    have c0 : Chg ([] : List Addr) H0 H0 := Chg.refl H0
    unfold Mi.m_l_chart at hm
    refine q_asg ?_
    refine w_lst ?_
    refine w_cons ?_
    refine w_cb ?_
    obtain ⟨u2, F3, r4, su5, kx6, ku7⟩ := itm_tup (n := 0) at0 r0
    refine w_args (va_cons (ku7 (val_var rfl) val_c) va_nil) ?_
    refine w_listL r4 fun p8 H12 np11 c9 r10 => ?_
    have d13 : Dj F0 [p8] := Ty.nin r0 np11
    have d14 : Dj F3 [p8] := Ty.nin r4 np11
    have n15 : ∀ a ∈ [p8], H0 a = none := one_fresh (c0.dom p8 np11)
    have r0 := Ty.ex r0 c9
    have r4 := Ty.ex r4 c9
    have c0 := c0.trans c9.none
    refine w_cons ?_
    refine w_cb ?_
    obtain ⟨u16, F17, r18, su19, kx20, ku21⟩ := itm_tup (n := 1) (atS at0) r0
    have d22 : Dj F17 [p8] := Dj.sub (d13) su19
    refine w_args (va_cons (ku21 (val_var rfl) val_c) va_nil) ?_
    refine w_listL r18 fun p23 H27 np26 c24 r25 => ?_
    have d28 : Dj F0 [p23] := Ty.nin r0 np26
    have d29 : Dj [p8] [p23] := Ty.nin r10 np26
    have d30 : Dj F17 [p23] := Ty.nin r18 np26
    have n31 : ∀ a ∈ [p23], H0 a = none := one_fresh (c0.dom p23 np26)
    have r0 := Ty.ex r0 c24
    have r10 := Ty.ex r10 c24
    have r18 := Ty.ex r18 c24
    have c0 := c0.trans c24.none
    refine w_cons ?_
    refine w_cb ?_
    obtain ⟨u32, F33, r34, su35, kx36, ku37⟩ := itm_tup (n := 2) (atS (atS at0)) r0
    have d38 : Dj F33 [p8] := Dj.sub (d13) su35
    have d39 : Dj F33 [p23] := Dj.sub (d28) su35
    refine w_args (va_cons (ku37 (val_var rfl) val_c) va_nil) ?_
    refine w_listL r34 fun p40 H44 np43 c41 r42 => ?_
    have d45 : Dj F0 [p40] := Ty.nin r0 np43
    have d46 : Dj [p8] [p40] := Ty.nin r10 np43
    have d47 : Dj [p23] [p40] := Ty.nin r25 np43
    have d48 : Dj F33 [p40] := Ty.nin r34 np43
    have n49 : ∀ a ∈ [p40], H0 a = none := one_fresh (c0.dom p40 np43)
    have r0 := Ty.ex r0 c41
    have r10 := Ty.ex r10 c41
    have r25 := Ty.ex r25 c41
    have r34 := Ty.ex r34 c41
    have c0 := c0.trans c41.none
    refine w_cons ?_
    refine w_cb ?_
    obtain ⟨u50, F51, r52, su53, kx54, ku55⟩ := itm_tup (n := 3) (atS (atS (atS at1))) r0
    have d56 : Dj F51 [p8] := Dj.sub (d13) su53
    have d57 : Dj F51 [p23] := Dj.sub (d28) su53
    have d58 : Dj F51 [p40] := Dj.sub (d45) su53
    refine w_args (va_cons (ku55 (val_var rfl) val_c) va_nil) ?_
    refine w_listL r52 fun p59 H63 np62 c60 r61 => ?_
    have d64 : Dj F0 [p59] := Ty.nin r0 np62
    have d65 : Dj [p8] [p59] := Ty.nin r10 np62
    have d66 : Dj [p23] [p59] := Ty.nin r25 np62
    have d67 : Dj [p40] [p59] := Ty.nin r42 np62
    have d68 : Dj F51 [p59] := Ty.nin r52 np62
    have n69 : ∀ a ∈ [p59], H0 a = none := one_fresh (c0.dom p59 np62)
    have r0 := Ty.ex r0 c60
    have r10 := Ty.ex r10 c60
    have r25 := Ty.ex r25 c60
    have r42 := Ty.ex r42 c60
    have r52 := Ty.ex r52 c60
    have c0 := c0.trans c60.none
    refine w_nil ?_
    refine e_hl (K := K) (ts := (sCons (yLst yInt) (sCons (yLst (yTup (sCons yInt (sOne yInt)))) (sCons (yLst yInt) (sOne (yLst yInt)))))) (G := ([p8] ++ ([p23] ++ ([p40] ++ [p59])))) (d := (d0.1, d0.2.1, d0.2.2.1, d0.2.2.2)) (by exact Nat.le_of_ble_eq_true rfl) ⟨_, _, _, _, rfl, rfl, r10, ⟨_, _, _, _, rfl, rfl, r25, ⟨_, _, _, _, rfl, rfl, r42, ⟨_, rfl, r61⟩⟩⟩⟩ fun p70 H74 np73 c71 r72 => ?_
    have d75 : Dj F0 (p70 :: ([p8] ++ ([p23] ++ ([p40] ++ [p59])))) := Dj.consR (Ty.nin r0 np73) (Dj.symm (Dj.app (Dj.symm (d13)) (Dj.symm (Dj.symm (Dj.app (Dj.symm (d28)) (Dj.symm (Dj.symm (Dj.app (Dj.symm (d45)) (Dj.symm (d64))))))))))
    have n76 : ∀ a ∈ (p70 :: ([p8] ++ ([p23] ++ ([p40] ++ [p59])))), H0 a = none := fresh_cons (c0.dom p70 np73) (app_fresh n15 (app_fresh n31 (app_fresh n49 n69)))
    have r0 := Ty.ex r0 c71
    have r10 := Ty.ex r10 c71
    have r25 := Ty.ex r25 c71
    have r42 := Ty.ex r42 c71
    have r61 := Ty.ex r61 c71
    have c0 := c0.trans c71.none
    refine g_name (σ' := [some v0, some (.ref p70), none, none]) rfl ?_
    refine q_asg ?_
    refine w_makeK ?_
    obtain ⟨u77, F78, r79, su80, kx81, ku82⟩ := itm_hl (n := 0) at0 r72
    have d83 : Dj F78 F0 := Dj.sub (d75.symm) su80
    have n84 : ∀ a ∈ F78, H0 a = none := fun a h => n76 a (su80 a h)
    obtain ⟨u85, F86, r87, su88, kx89, ku90⟩ := itm_hl (n := 1) (atS at0) r72
    have d91 : Dj F86 F0 := Dj.sub (d75.symm) su88
    have n92 : ∀ a ∈ F86, H0 a = none := fun a h => n76 a (su88 a h)
    refine w_args (va_cons (ku82 (val_var rfl) val_c) (va_cons (ku90 (val_var rfl) val_c) va_nil)) ?_
    obtain ⟨u93, F94, r95, su96, kx97, ku98⟩ := itm_hl (n := 2) (atS (atS at0)) r72
    have d99 : Dj F94 F0 := Dj.sub (d75.symm) su96
    have n100 : ∀ a ∈ F94, H0 a = none := fun a h => n76 a (su96 a h)
    obtain ⟨u101, F102, r103, su104, kx105, ku106⟩ := itm_hl (n := 3) (atS (atS (atS at1))) r72
    have d107 : Dj F102 F0 := Dj.sub (d75.symm) su104
    have n108 : ∀ a ∈ F102, H0 a = none := fun a h => n76 a (su104 a h)
    refine w_args (va_cons (ku98 (val_var rfl) val_c) (va_cons (ku106 (val_var rfl) val_c) va_nil)) ?_
    refine ⟨rfl, rfl, ?_⟩
    intro p109 dx110 nx111 ndx112 nex113
    have d114 : Dj F0 [p109] := Ty.nin r0 nx111
    have d115 : Dj (p70 :: ([p8] ++ ([p23] ++ ([p40] ++ [p59])))) [p109] := Ty.nin r72 nx111
    have d116 : Dj F78 [p109] := Ty.nin r79 nx111
    have d117 : Dj F86 [p109] := Ty.nin r87 nx111
    have d118 : Dj F94 [p109] := Ty.nin r95 nx111
    have d119 : Dj F102 [p109] := Ty.nin r103 nx111
    have n120 : ∀ a ∈ [p109], H0 a = none := one_fresh (c0.dom p109 nx111)
    obtain ⟨c121, r122⟩ := make_new (K := K) (C := C_Chart) nx111 ndx112 nex113
    have r0 := Ty.ex r0 c121
    have r72 := Ty.ex r72 c121
    have r79 := Ty.ex r79 c121
    have r87 := Ty.ex r87 c121
    have r95 := Ty.ex r95 c121
    have r103 := Ty.ex r103 c121
    have c0 := c0.trans c121.none
    obtain ⟨q123, hq123, hm⟩ := Mi.bnd hm
    refine ⟨p109, dx110, u77, F78, (d0.1, d0.2.1, d0.2.2.1, d0.2.2.2).1, u85, F86, (d0.1, d0.2.1, d0.2.2.1, d0.2.2.2).2.1, u93, F94, (d0.1, d0.2.1, d0.2.2.1, d0.2.2.2).2.2.1, u101, F102, (d0.1, d0.2.1, d0.2.2.1, d0.2.2.2).2.2.2, q123, rfl, r122, r79, r87, r95, r103, d116.symm, d117.symm, d118.symm, d119.symm, hq123, fun H125 c124 r126 => ⟨rfl, ?_⟩⟩
    have r0 := Ty.chg r0 c124 d114
    have r72 := Ty.chg r72 c124 d115
    have c0 := c0.join c124 (fun a h => .inr (n120 a h))
    refine g_name (σ' := [some v0, some (.ref p70), some (.ref p109), none]) rfl ?_
    refine q_for ?_
    refine w_iList ?_
    refine c_val (val_var rfl) ?_
    refine l_clear (s := 3) (als_cons (als_cons (als_cons als_one))) r72 (by exact Nat.le_of_ble_eq_true rfl) (fun D σ H p xs hs hp k => q_drop (w_bm0 (c_val (val_var hs) ⟨.inl ⟨rfl, _, .inl (.inl hp)⟩, ⟨p, xs, rfl, rfl, hp, w_next k⟩⟩))) (fun σ' H128 c127 hσ => ?_)
    obtain ⟨y129, rfl⟩ := hσ
    have r0 := Ty.chg r0 c127 d75
    have r126 := Ty.fz r126 c127
    have c0 := c0.join c127 (fun a h => .inr (n76 a h))
    refine st_eq (σ' := [some v0, some (.ref p70), some (.ref p109), y129]) rfl ?_
    refine q_ret ?_
    refine c_val (val_var rfl) ?_
    obtain rfl := Option.some.inj hm
    exact hQ _ _ c0 r126 
abbrev s_l_craft : Stmt := topS 38
abbrev N_l_craft : List Str := ["_law_hand_here", "_law_sea_here", "_law_deep", "_law_low", "_law_top", "_law_room", "_law_amount"]
theorem sc_l_craft : FnScope ["_law_hand_here", "_law_sea_here", "_law_deep", "_law_low", "_law_top", "_law_room", "_law_amount"] ["_law_hand_here", "_law_sea_here"] (defScope s_l_craft) := ⟨rfl, rfl, rfl, by decide +kernel, rfl, by decide +kernel, by decide +kernel⟩
def sp_l_craft (K : PySem.W.Frag) : Sp := fun vs H Q _ => ∃ (v0 : V) (F0 : List Addr) (d0 : (List Int)) (v1 : V) (F1 : List Addr) (d1 : ((List Int) × (List (Int × Int)) × (List Int) × (List Int))) (r : ((Int × Int × Int × Int × Int) × (List Int))), vs = [v0, v1] ∧ (yLst yInt).rep K H F0 v0 d0 ∧ (yTup (sCons (yLst yInt) (sCons (yLst (yTup (sCons yInt (sOne yInt)))) (sCons (yLst yInt) (sOne (yLst yInt)))))).rep K H F1 v1 d1 ∧ Dj F0 F1 ∧ Mi.m_l_craft d0 d1 = some r ∧ ∀ v H', Chg (F0) H H' → (yTup (sCons yInt (sCons yInt (sCons yInt (sCons yInt (sOne yInt)))))).rep K H' [] v r.1 → (yLst yInt).rep K H' F0 v0 r.2 → Q v H'
theorem ok_l_craft (B : Bi mg) (CN : Cs K mg) (D : Dfn K mg "_law_craft" s_l_craft) (C_l_pick : Cal P w K mg "_law_pick" ["_law_hand_here", "_law_size"] 1 (sp_l_pick K)) : Cal P w K mg "_law_craft" ["_law_hand_here", "_law_sea_here"] 2 (sp_l_craft K) := by
  obtain ⟨f, fd, F, g⟩ := D.ex
  refine ⟨f, fd, g, F.kp, bindsF F (fun _ _ _ _ _ _ us hl => match us, hl with | [_, _], _ => rfl), fun base => F.ok sc_l_craft (fun vs H Q E h => ?_) (fun cdv A outer s H0 vs Q E hr h => ?_)⟩
  · obtain ⟨v0, F0, d0, v1, F1, d1, r, rfl, r0, r1, dd0_1, hm, hQ⟩ := h; rfl
  ·
    obtain ⟨v0, F0, d0, v1, F1, d1, r, rfl, r0, r1, dd0_1, hm, hQ⟩ := h
    refine ⟨_, pss_cons (ps_set (i := 2) sc_l_craft.nd rfl (.inl rfl) (pe_ix (ix_l (K := K)) (pe_lst (pa_cons pe_int (pa_cons (pe_ix (ix_l (K := K)) (pe_ix (ix_t (K := K)) (pv 1) pe_int (fun _ _ => rfl)) (pe_cc C_l_pick hr (pa_cons (pv 0) (pa_cons (pe_callB (cl_len (K := K)) (by rfl) B.len PySem.boot_len (pa_cons (pe_ix (ix_t (K := K)) (pv 1) pe_int (fun _ _ => rfl)) pa_nil)) pa_nil))) (fun _ _ => rfl)) (pa_cons (pe_op op_add (pe_ix (ix_l (K := K)) (pe_ix (ix_t (K := K)) (pv 1) pe_int (fun _ _ => rfl)) (pe_cc C_l_pick hr (pa_cons (pv 0) (pa_cons (pe_callB (cl_len (K := K)) (by rfl) B.len PySem.boot_len (pa_cons (pe_ix (ix_t (K := K)) (pv 1) pe_int (fun _ _ => rfl)) pa_nil)) pa_nil))) (fun _ _ => rfl)) pe_int) pa_nil)))) (pe_cc C_l_pick hr (pa_cons (pv 0) (pa_cons pe_int pa_nil))) (fun _ _ => rfl)))
      (pss_cons (ps_set (i := 3) sc_l_craft.nd rfl (.inl rfl) (pe_ix (ix_l (K := K)) (pe_lst (pa_cons pe_int (pa_cons pe_int (pa_cons pe_int (pa_cons pe_int pa_nil))))) (pe_cc C_l_pick hr (pa_cons (pv 0) (pa_cons pe_int pa_nil))) (fun _ _ => rfl)))
      (pss_cons (ps_set (i := 4) sc_l_craft.nd rfl (.inl rfl) (pe_callB (cl_max2 rfl) (by rfl) B.max (by decide +kernel) (pa_cons (pv 3) (pa_cons (pe_ix (ix_l (K := K)) (pe_lst (pa_cons pe_int (pa_cons pe_int (pa_cons pe_int (pa_cons pe_int pa_nil))))) (pe_cc C_l_pick hr (pa_cons (pv 0) (pa_cons pe_int pa_nil))) (fun _ _ => rfl)) pa_nil))))
      (pss_cons (ps_set (i := 5) sc_l_craft.nd rfl (.inl rfl) (pe_ix (ix_l (K := K)) (pe_lst (pa_cons pe_int (pa_cons pe_int (pa_cons pe_int (pa_cons pe_int pa_nil))))) (pe_cc C_l_pick hr (pa_cons (pv 0) (pa_cons pe_int pa_nil))) (fun _ _ => rfl)))
      (pss_cons (ps_set (i := 6) sc_l_craft.nd rfl (.inl rfl) (pe_ix (ix_l (K := K)) (pe_lst (pa_cons (pv 5) (pa_cons (pe_cc C_l_pick hr (pa_cons (pv 0) (pa_cons (pe_op op_add (pv 5) pe_int) pa_nil))) pa_nil))) (pe_cc C_l_pick hr (pa_cons (pv 0) (pa_cons pe_int pa_nil))) (fun _ _ => rfl)))
      (pss_cons (ps_ret (pe_tup (pa_cons (pe_callB (cl_min2 rfl) (by rfl) B.min (by decide +kernel) (pa_cons (pv 2) (pa_cons pe_int pa_nil))) (pa_cons (pv 3) (pa_cons (pv 4) (pa_cons (pv 5) (pa_cons (pv 6) pa_nil))))))) pss_nil))))), ?_⟩
    have c0 : Chg (F0) H0 H0 := Chg.refl H0
    unfold Mi.m_l_craft at hm
    refine q_asg ?_
    refine w_op ?_
    refine w_lst ?_
    refine w_cons ?_
    refine c_val val_c ?_
    refine w_cons ?_
    refine w_op ?_
    obtain ⟨u3, F4, r5, su6, kx7, ku8⟩ := itm_tup (n := 0) at0 r1
    have d9 : Dj F4 F0 := Dj.sub (dd0_1.symm) su6
    refine c_val (ku8 (val_var rfl) val_c) ?_
    refine w_call ?_
    obtain ⟨u10, F11, r12, su13, kx14, ku15⟩ := itm_tup (n := 0) at0 r1
    have d16 : Dj F11 F0 := Dj.sub (dd0_1.symm) su13
    refine w_args (va_cons (val_var rfl) (va_cons (val_lenL r12 (ku15 (val_var rfl) val_c)) va_nil)) ?_
    obtain ⟨q17, hq17, hm⟩ := Mi.bnd hm
    refine ⟨v0, F0, d0, (d1.1.length : Int), q17, rfl, r0, hq17, fun H19 c18 r0 => ?_⟩
    have r1 := Ty.chg r1 c18 dd0_1.symm
    have r5 := Ty.chg r5 c18 d9
    have c0 := c0.join c18 (fun a h => .inl (h))
    obtain ⟨x20, hx20, hm⟩ := Mi.bnd hm
    refine w_ixL r5 hx20 fun u21 r22 => ?_
    obtain ⟨_, rfl⟩ := r22
    refine w_cons ?_
    refine w_op ?_
    refine w_op ?_
    obtain ⟨u23, F24, r25, su26, kx27, ku28⟩ := itm_tup (n := 0) at0 r1
    have d29 : Dj F24 F0 := Dj.sub (dd0_1.symm) su26
    refine c_val (ku28 (val_var rfl) val_c) ?_
    refine w_call ?_
    obtain ⟨u30, F31, r32, su33, kx34, ku35⟩ := itm_tup (n := 0) at0 r1
    have d36 : Dj F31 F0 := Dj.sub (dd0_1.symm) su33
    refine w_args (va_cons (val_var rfl) (va_cons (val_lenL r32 (ku35 (val_var rfl) val_c)) va_nil)) ?_
    obtain ⟨q37, hq37, hm⟩ := Mi.bnd hm
    refine ⟨v0, F0, q17.2, (d1.1.length : Int), q37, rfl, r0, hq37, fun H39 c38 r0 => ?_⟩
    have r1 := Ty.chg r1 c38 dd0_1.symm
    have r25 := Ty.chg r25 c38 d29
    have c0 := c0.join c38 (fun a h => .inl (h))
    obtain ⟨x40, hx40, hm⟩ := Mi.bnd hm
    refine w_ixL r25 hx40 fun u41 r42 => ?_
    obtain ⟨_, rfl⟩ := r42
    refine c_val val_c ?_
    refine w_I0 ?_
    refine w_nil ?_
    refine e_lst (K := K) (τ := yInt) (by exact Nat.le_of_ble_eq_true rfl) (.cons yInt_i (.cons yInt_i (.cons yInt_i .nil))) fun p43 H47 np46 c44 r45 => ?_
    have d48 : Dj F0 [p43] := Ty.nin r0 np46
    have d49 : Dj F1 [p43] := Ty.nin r1 np46
    have n50 : ∀ a ∈ [p43], H0 a = none := one_fresh (c0.dom p43 np46)
    have r0 := Ty.ex r0 c44
    have r1 := Ty.ex r1 c44
    have c0 := c0.trans c44.none
    refine w_call ?_
    refine w_args (va_cons (val_var rfl) (va_cons val_c va_nil)) ?_
    obtain ⟨q51, hq51, hm⟩ := Mi.bnd hm
    refine ⟨v0, F0, q37.2, (3 : Int), q51, rfl, r0, hq51, fun H53 c52 r0 => ?_⟩
    have r1 := Ty.chg r1 c52 dd0_1.symm
    have r45 := Ty.chg r45 c52 d48.symm
    have c0 := c0.join c52 (fun a h => .inl (h))
    obtain ⟨x54, hx54, hm⟩ := Mi.bnd hm
    refine w_ixL r45 hx54 fun u55 r56 => ?_
    obtain ⟨_, rfl⟩ := r56
    refine g_name (σ' := [some v0, some v1, some (.int x54), none, none, none, none]) rfl ?_
    refine q_asg ?_
    refine w_op ?_
    refine w_lst ?_
    refine w_args (va_cons val_c (va_cons val_c (va_cons val_c (va_cons val_c va_nil)))) ?_
    refine e_lst (K := K) (τ := yInt) (by exact Nat.le_of_ble_eq_true rfl) (.cons yInt_i (.cons yInt_i (.cons yInt_i (.cons yInt_i .nil)))) fun p57 H61 np60 c58 r59 => ?_
    have d62 : Dj F0 [p57] := Ty.nin r0 np60
    have d63 : Dj F1 [p57] := Ty.nin r1 np60
    have n64 : ∀ a ∈ [p57], H0 a = none := one_fresh (c0.dom p57 np60)
    have r0 := Ty.ex r0 c58
    have r1 := Ty.ex r1 c58
    have c0 := c0.trans c58.none
    refine w_call ?_
    refine w_args (va_cons (val_var rfl) (va_cons val_c va_nil)) ?_
    obtain ⟨q65, hq65, hm⟩ := Mi.bnd hm
    refine ⟨v0, F0, q51.2, (4 : Int), q65, rfl, r0, hq65, fun H67 c66 r0 => ?_⟩
    have r1 := Ty.chg r1 c66 dd0_1.symm
    have r59 := Ty.chg r59 c66 d62.symm
    have c0 := c0.join c66 (fun a h => .inl (h))
    obtain ⟨x68, hx68, hm⟩ := Mi.bnd hm
    refine w_ixL r59 hx68 fun u69 r70 => ?_
    obtain ⟨_, rfl⟩ := r70
    refine g_name (σ' := [some v0, some v1, some (.int x54), some (.int x68), none, none, none]) rfl ?_
    refine q_asg ?_
    refine w_cb ?_
    refine w_cons ?_
    refine c_val (val_var rfl) ?_
    refine w_cons ?_
    refine w_op ?_
    refine w_lst ?_
    refine w_args (va_cons val_c (va_cons val_c (va_cons val_c (va_cons val_c va_nil)))) ?_
    refine e_lst (K := K) (τ := yInt) (by exact Nat.le_of_ble_eq_true rfl) (.cons yInt_i (.cons yInt_i (.cons yInt_i (.cons yInt_i .nil)))) fun p71 H75 np74 c72 r73 => ?_
    have d76 : Dj F0 [p71] := Ty.nin r0 np74
    have d77 : Dj F1 [p71] := Ty.nin r1 np74
    have n78 : ∀ a ∈ [p71], H0 a = none := one_fresh (c0.dom p71 np74)
    have r0 := Ty.ex r0 c72
    have r1 := Ty.ex r1 c72
    have c0 := c0.trans c72.none
    refine w_call ?_
    refine w_args (va_cons (val_var rfl) (va_cons val_c va_nil)) ?_
    obtain ⟨q79, hq79, hm⟩ := Mi.bnd hm
    refine ⟨v0, F0, q65.2, (4 : Int), q79, rfl, r0, hq79, fun H81 c80 r0 => ?_⟩
    have r1 := Ty.chg r1 c80 dd0_1.symm
    have r73 := Ty.chg r73 c80 d76.symm
    have c0 := c0.join c80 (fun a h => .inl (h))
    obtain ⟨x82, hx82, hm⟩ := Mi.bnd hm
    refine w_ixL r73 hx82 fun u83 r84 => ?_
    obtain ⟨_, rfl⟩ := r84
    refine w_nil ?_
    refine w_max2 ?_
    obtain ⟨top85, htop85, hm⟩ := Mi.letE hm
    refine g_nameE (congrArg V.int htop85) (σ' := [some v0, some v1, some (.int x54), some (.int x68), some (.int top85), none, none]) rfl ?_
    refine q_asg ?_
    refine w_op ?_
    refine w_lst ?_
    refine w_args (va_cons val_c (va_cons val_c (va_cons val_c (va_cons val_c va_nil)))) ?_
    refine e_lst (K := K) (τ := yInt) (by exact Nat.le_of_ble_eq_true rfl) (.cons yInt_i (.cons yInt_i (.cons yInt_i (.cons yInt_i .nil)))) fun p86 H90 np89 c87 r88 => ?_
    have d91 : Dj F0 [p86] := Ty.nin r0 np89
    have d92 : Dj F1 [p86] := Ty.nin r1 np89
    have n93 : ∀ a ∈ [p86], H0 a = none := one_fresh (c0.dom p86 np89)
    have r0 := Ty.ex r0 c87
    have r1 := Ty.ex r1 c87
    have c0 := c0.trans c87.none
    refine w_call ?_
    refine w_args (va_cons (val_var rfl) (va_cons val_c va_nil)) ?_
    obtain ⟨q94, hq94, hm⟩ := Mi.bnd hm
    refine ⟨v0, F0, q79.2, (4 : Int), q94, rfl, r0, hq94, fun H96 c95 r0 => ?_⟩
    have r1 := Ty.chg r1 c95 dd0_1.symm
    have r88 := Ty.chg r88 c95 d91.symm
    have c0 := c0.join c95 (fun a h => .inl (h))
    obtain ⟨x97, hx97, hm⟩ := Mi.bnd hm
    refine w_ixL r88 hx97 fun u98 r99 => ?_
    obtain ⟨_, rfl⟩ := r99
    refine g_name (σ' := [some v0, some v1, some (.int x54), some (.int x68), some (.int top85), some (.int x97), none]) rfl ?_
    refine q_asg ?_
    refine w_op ?_
    refine w_lst ?_
    refine w_cons ?_
    refine c_val (val_var rfl) ?_
    refine w_cons ?_
    refine w_call ?_
    refine w_args (va_cons (val_var rfl) (va_cons (val_add (val_var rfl) val_c) va_nil)) ?_
    obtain ⟨q100, hq100, hm⟩ := Mi.bnd hm
    refine ⟨v0, F0, q94.2, (x97 + (1 : Int)), q100, rfl, r0, hq100, fun H102 c101 r0 => ?_⟩
    have r1 := Ty.chg r1 c101 dd0_1.symm
    have c0 := c0.join c101 (fun a h => .inl (h))
    refine w_nil ?_
    refine e_lst (K := K) (τ := yInt) (by exact Nat.le_of_ble_eq_true rfl) (.cons yInt_i (.cons yInt_i .nil)) fun p103 H107 np106 c104 r105 => ?_
    have d108 : Dj F0 [p103] := Ty.nin r0 np106
    have d109 : Dj F1 [p103] := Ty.nin r1 np106
    have n110 : ∀ a ∈ [p103], H0 a = none := one_fresh (c0.dom p103 np106)
    have r0 := Ty.ex r0 c104
    have r1 := Ty.ex r1 c104
    have c0 := c0.trans c104.none
    refine w_call ?_
    refine w_args (va_cons (val_var rfl) (va_cons val_c va_nil)) ?_
    obtain ⟨q111, hq111, hm⟩ := Mi.bnd hm
    refine ⟨v0, F0, q100.2, (2 : Int), q111, rfl, r0, hq111, fun H113 c112 r0 => ?_⟩
    have r1 := Ty.chg r1 c112 dd0_1.symm
    have r105 := Ty.chg r105 c112 d108.symm
    have c0 := c0.join c112 (fun a h => .inl (h))
    obtain ⟨x114, hx114, hm⟩ := Mi.bnd hm
    refine w_ixL r105 hx114 fun u115 r116 => ?_
    obtain ⟨_, rfl⟩ := r116
    refine g_name (σ' := [some v0, some v1, some (.int x54), some (.int x68), some (.int top85), some (.int x97), some (.int x114)]) rfl ?_
    refine q_ret ?_
    refine w_tup ?_
    refine w_args (va_cons (val_min2 (val_var rfl) val_c) (va_cons (val_var rfl) (va_cons (val_var rfl) (va_cons (val_var rfl) (va_cons (val_var rfl) va_nil))))) ?_
    refine e_tup (K := K) (ty := (sCons yInt (sCons yInt (sCons yInt (sCons yInt (sOne yInt)))))) (F := []) (d := ((min x54 (99 : Int)), x68, top85, x97, x114)) (by exact Nat.le_of_ble_eq_true rfl) ⟨_, _, _, _, rfl, rfl, yInt_i, ⟨_, _, _, _, rfl, rfl, yInt_i, ⟨_, _, _, _, rfl, rfl, yInt_i, ⟨_, _, _, _, rfl, rfl, yInt_i, ⟨_, rfl, yInt_i⟩⟩⟩⟩⟩ fun p117 H121 np120 c118 r119 => ?_
    have r0 := Ty.ex r0 c118
    have r1 := Ty.ex r1 c118
    have c0 := c0.trans c118.none
    obtain rfl := Option.some.inj hm
    exact hQ _ _ c0 r119 r0
abbrev s_l_ship : Stmt := topS 39
abbrev N_l_ship : List Str := ["_law_craft_here"]
theorem sc_l_ship : FnScope ["_law_craft_here"] ["_law_craft_here"] (defScope s_l_ship) := ⟨rfl, rfl, rfl, by decide +kernel, rfl, by decide +kernel, by decide +kernel⟩
def sp_l_ship (K : PySem.W.Frag) (C_Ship : Addr) : Sp := fun vs H Q _ => ∃ (v0 : V) (d0 : (Int × Int × Int × Int × Int)) (r : (Int × Int × Int × Int × Int)), vs = [v0] ∧ (yTup (sCons yInt (sCons yInt (sCons yInt (sCons yInt (sOne yInt)))))).rep K H [] v0 d0 ∧ Mi.m_l_ship d0 = some r ∧ ∀ v H', Chg ([]) H H' → (yObj C_Ship nm_Ship ty_Ship).rep K H' [] v r → Q v H'
theorem ok_l_ship (B : Bi mg) (CN : Cs K mg) (D : Dfn K mg "_law_ship" s_l_ship) {C_Ship : Addr} (T_Ship : Tx K mg C_Ship "Ship" nm_Ship) (I_Ship : CalI P w K mg C_Ship "Ship.__init__" s_Ship_init (kw_Ship K) ["self", "draught", "slow", "fast", "tank", "fuel"] 1 (sp_Ship_init K C_Ship)) : Cal P w K mg "_law_ship" ["_law_craft_here"] 3 (sp_l_ship K C_Ship) := by
  obtain ⟨f, fd, F, g⟩ := D.ex
  refine ⟨f, fd, g, F.kp, bindsF F (fun _ _ _ _ _ _ us hl => match us, hl with | [_], _ => rfl), fun base => F.ok sc_l_ship (fun vs H Q E h => ?_) (fun cdv A outer s H0 vs Q E hr h => ?_)⟩
  · obtain ⟨v0, d0, r, rfl, r0, hm, hQ⟩ := h; rfl
  ·
    obtain ⟨v0, d0, r, rfl, r0, hm, hQ⟩ := h
    obtain ⟨fI_Ship, fdI_Ship, MI_Ship, FI_Ship, OI_Ship⟩ := I_Ship.ex
    obtain ⟨mv_kb_Ship_1_slow_fast_tank_fuel, kb_Ship_1_slow_fast_tank_fuel⟩ := FunD.kbinds0 (ps := ["self", "draught", "slow", "fast", "tank", "fuel"]) FI_Ship 2 ["slow", "fast", "tank", "fuel"] [] (fun us mv ws => permG [0, 1, 2, 3, 4, 5] us mv ws) (by intro z; cases z) (fun q hq => nomatch hq) (fun r1 r2 r3 => permG_rel _ r1 r2 r3) (fun _ _ _ _ _ _ us mv ws h1 h2 h3 => match us, mv, ws, h1, h2, h3 with | [_, _], [], [_, _, _, _], _, _, _ => rfl)
    refine ⟨_, pss_cons (ps_ret (pe_makeK MI_Ship (OI_Ship base) (hr.mono (by decide)) (by rfl) T_Ship.mgC kb_Ship_1_slow_fast_tank_fuel pass0 (pa_cons (pe_ix (ix_t (K := K)) (pv 0) pe_int (fun _ _ => rfl)) pa_nil) (pk_cons (pe_ix (ix_t (K := K)) (pv 0) pe_int (fun _ _ => rfl)) (pk_cons (pe_ix (ix_t (K := K)) (pv 0) pe_int (fun _ _ => rfl)) (pk_cons (pe_ix (ix_t (K := K)) (pv 0) pe_int (fun _ _ => rfl)) (pk_cons (pe_ix (ix_t (K := K)) (pv 0) pe_int (fun _ _ => rfl)) pk_nil)))))) pss_nil, ?_⟩
    have c0 : Chg ([] : List Addr) H0 H0 := Chg.refl H0
    unfold Mi.m_l_ship at hm
    refine q_ret ?_
    refine w_makeK ?_
    obtain ⟨u2, F3, r4, su5, kx6, ku7⟩ := itm_tup (n := 0) at0 r0
    obtain ⟨rfl, rfl⟩ := r4
    refine w_args (va_cons (ku7 (val_var rfl) val_c) va_nil) ?_
    obtain ⟨u8, F9, r10, su11, kx12, ku13⟩ := itm_tup (n := 1) (atS at0) r0
    obtain ⟨rfl, rfl⟩ := r10
    obtain ⟨u14, F15, r16, su17, kx18, ku19⟩ := itm_tup (n := 2) (atS (atS at0)) r0
    obtain ⟨rfl, rfl⟩ := r16
    obtain ⟨u20, F21, r22, su23, kx24, ku25⟩ := itm_tup (n := 3) (atS (atS (atS at0))) r0
    obtain ⟨rfl, rfl⟩ := r22
    obtain ⟨u26, F27, r28, su29, kx30, ku31⟩ := itm_tup (n := 4) (atS (atS (atS (atS at1)))) r0
    obtain ⟨rfl, rfl⟩ := r28
    refine w_args (va_cons (ku13 (val_var rfl) val_c) (va_cons (ku19 (val_var rfl) val_c) (va_cons (ku25 (val_var rfl) val_c) (va_cons (ku31 (val_var rfl) val_c) va_nil)))) ?_
    refine ⟨rfl, rfl, ?_⟩
    intro p32 dx33 nx34 ndx35 nex36
    have n37 : ∀ a ∈ [p32], H0 a = none := one_fresh (c0.dom p32 nx34)
    obtain ⟨c38, r39⟩ := make_new (K := K) (C := C_Ship) nx34 ndx35 nex36
    have r0 := Ty.fz r0 c38
    have c0 := c0.trans c38.none
    obtain ⟨q40, hq40, hm⟩ := Mi.bnd hm
    refine ⟨p32, dx33, d0.1, d0.2.1, d0.2.2.1, d0.2.2.2.1, (.int d0.2.2.2.2), (some d0.2.2.2.2), q40, rfl, r39, (opt_i nn_int yInt_i), hq40, fun H42 c41 r43 => ⟨rfl, ?_⟩⟩
    have r0 := Ty.fz r0 c41
    have c0 := c0.join c41 (fun a h => .inr (n37 a h))
    obtain rfl := Option.some.inj hm
    exact hQ _ _ c0 r43 
abbrev s_l_water : Stmt := topS 40
abbrev N_l_water : List Str := ["_law_sea_here", "_law_place", "_law_when"]
theorem sc_l_water : FnScope ["_law_sea_here", "_law_place", "_law_when"] ["_law_sea_here", "_law_place", "_law_when"] (defScope s_l_water) := ⟨rfl, rfl, rfl, by decide +kernel, rfl, by decide +kernel, by decide +kernel⟩
def sp_l_water (K : PySem.W.Frag) : Sp := fun vs H Q _ => ∃ (v0 : V) (F0 : List Addr) (d0 : ((List Int) × (List (Int × Int)) × (List Int) × (List Int))) (d1 : Int) (d2 : Int) (r : Int), vs = [v0, (.int d1), (.int d2)] ∧ (yTup (sCons (yLst yInt) (sCons (yLst (yTup (sCons yInt (sOne yInt)))) (sCons (yLst yInt) (sOne (yLst yInt)))))).rep K H F0 v0 d0 ∧ Mi.m_l_water d0 d1 d2 = some r ∧ ∀ H', Chg ([]) H H' → Q (.int r) H'
theorem ok_l_water (B : Bi mg) (CN : Cs K mg) (D : Dfn K mg "_law_water" s_l_water)  : Cal P w K mg "_law_water" ["_law_sea_here", "_law_place", "_law_when"] 1 (sp_l_water K) := by
  obtain ⟨f, fd, F, g⟩ := D.ex
  refine ⟨f, fd, g, F.kp, bindsF F (fun _ _ _ _ _ _ us hl => match us, hl with | [_, _, _], _ => rfl), fun base => F.ok sc_l_water (fun vs H Q E h => ?_) (fun cdv A outer s H0 vs Q E hr h => ?_)⟩
  · obtain ⟨v0, F0, d0, d1, d2, r, rfl, r0, hm, hQ⟩ := h; rfl
  ·
    obtain ⟨v0, F0, d0, d1, d2, r, rfl, r0, hm, hQ⟩ := h
    refine ⟨_, pss_cons (ps_ret (pe_op op_add (pe_ix (ix_l (K := K)) (pe_ix (ix_t (K := K)) (pv 0) pe_int (fun _ _ => rfl)) (pv 1) (fun _ _ => rfl)) (pe_ix (ix_l (K := K)) (pe_ix (ix_t (K := K)) (pv 0) pe_int (fun _ _ => rfl)) (pe_op op_mod (pe_callTy cl_int (by rfl) B.int (by decide +kernel) (pa_cons (pv 2) pa_nil)) (pe_callB (cl_len (K := K)) (by rfl) B.len PySem.boot_len (pa_cons (pe_ix (ix_t (K := K)) (pv 0) pe_int (fun _ _ => rfl)) pa_nil))) (fun _ _ => rfl)))) pss_nil, ?_⟩
    have c0 : Chg ([] : List Addr) H0 H0 := Chg.refl H0
    unfold Mi.m_l_water at hm
    refine q_ret ?_
    obtain ⟨u4, F5, r6, su7, kx8, ku9⟩ := itm_tup (n := 0) at0 r0
    obtain ⟨x10, hx10, hm⟩ := Mi.bnd hm
    obtain ⟨u11, F12, r13, su14, kx15, ku16⟩ := itm_tup (n := 2) (atS (atS at0)) r0
    obtain ⟨u17, F18, r19, su20, kx21, ku22⟩ := itm_tup (n := 2) (atS (atS at0)) r0
    obtain ⟨x23, hx23, hm⟩ := Mi.bnd hm
    obtain ⟨x24, hx24, hm⟩ := Mi.bnd hm
    refine c_val (val_add (itm_LI r6 hx10 (ku9 (val_var rfl) val_c) (val_var rfl)) (itm_LI r13 hx24 (ku16 (val_var rfl) val_c) (val_mod (val_int (val_var rfl)) (val_lenL r19 (ku22 (val_var rfl) val_c)) hx23))) ?_
    obtain rfl := Option.some.inj hm
    exact hQ _ c0 
abbrev s_l_touches : Stmt := topS 41
abbrev N_l_touches : List Str := ["_law_sea_here", "_law_here", "_law_place", "_law_pair"]
theorem sc_l_touches : FnScope ["_law_sea_here", "_law_here", "_law_place", "_law_pair"] ["_law_sea_here", "_law_here", "_law_place"] (defScope s_l_touches) := ⟨rfl, rfl, rfl, by decide +kernel, rfl, by decide +kernel, by decide +kernel⟩
def sp_l_touches (K : PySem.W.Frag) : Sp := fun vs H Q _ => ∃ (v0 : V) (F0 : List Addr) (d0 : ((List Int) × (List (Int × Int)) × (List Int) × (List Int))) (v1 : V) (F1 : List Addr) (d1 : (List Int)) (d2 : Int) (r : Bool), vs = [v0, v1, (.int d2)] ∧ (yTup (sCons (yLst yInt) (sCons (yLst (yTup (sCons yInt (sOne yInt)))) (sCons (yLst yInt) (sOne (yLst yInt)))))).rep K H F0 v0 d0 ∧ (yLst yInt).rep K H F1 v1 d1 ∧ Mi.m_l_touches d0 d1 d2 = some r ∧ ∀ H', Chg ([]) H H' → Q (.bl r) H'
theorem ok_l_touches (B : Bi mg) (CN : Cs K mg) (D : Dfn K mg "_law_touches" s_l_touches)  : Cal P w K mg "_law_touches" ["_law_sea_here", "_law_here", "_law_place"] 1 (sp_l_touches K) := by
  obtain ⟨f, fd, F, g⟩ := D.ex
  refine ⟨f, fd, g, F.kp, bindsF F (fun _ _ _ _ _ _ us hl => match us, hl with | [_, _, _], _ => rfl), fun base => F.ok sc_l_touches (fun vs H Q E h => ?_) (fun cdv A outer s H0 vs Q E hr h => ?_)⟩
  · obtain ⟨v0, F0, d0, v1, F1, d1, d2, r, rfl, r0, r1, hm, hQ⟩ := h; rfl
  ·
    obtain ⟨v0, F0, d0, v1, F1, d1, d2, r, rfl, r0, r1, hm, hQ⟩ := h
    refine ⟨_, pss_cons (ps_for PassesOwn.never rfl (pi_list (pe_ix (ix_t (K := K)) (pv 0) pe_int (fun _ _ => rfl))) (pg_name (i := 3) sc_l_touches.nd rfl (.inl rfl)) (pss_cons (ps_if (PW.pt (pw_and (pt_cmpR op_eq (pe_ix (ix_t (K := K)) (pv 3) pe_int (fun _ _ => rfl)) (pv 2) (nomark _)) (pw_and1 (pt_cmpR (op_in_q (K := K)) (pe_ix (ix_t (K := K)) (pv 3) pe_int (fun _ _ => rfl)) (pv 1) (by rfl))))) (pss_cons (ps_ret pe_bl) pss_nil) (pss_nil))
      (pss_cons (ps_if (PW.pt (pw_and (pt_cmpR op_eq (pe_ix (ix_t (K := K)) (pv 3) pe_int (fun _ _ => rfl)) (pv 2) (nomark _)) (pw_and1 (pt_cmpR (op_in_q (K := K)) (pe_ix (ix_t (K := K)) (pv 3) pe_int (fun _ _ => rfl)) (pv 1) (by rfl))))) (pss_cons (ps_ret pe_bl) pss_nil) (pss_nil))
      (pss_nil))))
      (pss_cons (ps_ret pe_bl) pss_nil), ?_⟩
    have c0 : Chg ([] : List Addr) H0 H0 := Chg.refl H0
    unfold Mi.m_l_touches at hm
    refine q_for ?_
    refine w_iList ?_
    obtain ⟨u4, F5, r6, su7, kx8, ku9⟩ := itm_tup (n := 1) (atS at0) r0
    refine c_val (ku9 (val_var rfl) val_c) ?_
    obtain ⟨e10, he10, hm⟩ := Mi.bnd hm
    refine l_lst r6 (fun i σ' H' => ∃ (s11 : Unit) (y12 : Option V), σ' = [some v0, some v1, some (.int d2), y12] ∧ Chg ([] : List Addr) H0 H' ∧ (yTup (sCons (yLst yInt) (sCons (yLst (yTup (sCons yInt (sOne yInt)))) (sCons (yLst yInt) (sOne (yLst yInt)))))).rep K H' F0 v0 d0 ∧ (yLst yInt).rep K H' F1 v1 d1 ∧ (yLst (yTup (sCons yInt (sOne yInt)))).rep K H' F5 u4 d0.2.1 ∧ Mi.forR (Mi.m_l_touches_b1 d1 d2) s11 (List.drop i d0.2.1) = some e10) ⟨(), none, rfl, c0, r0, r1, r6, he10⟩ (fun i σ' H' hp => by obtain ⟨s11, y12, rfl, c0, r0, r1, r6, _⟩ := hp; exact r6) (fun i15 x14 u16 σ' H' hx13 r17 hp => ?_) (fun σ' H' hp => ?_)
    ·
      obtain ⟨s11, y12, rfl, c0, r0, r1, r6, hle10⟩ := hp
      obtain ⟨o18, hbe10, hore10⟩ := Mi.forR_go hle10 hx13
      unfold Mi.m_l_touches_b1 at hbe10
      refine g_name (σ' := [some v0, some v1, some (.int d2), some u16]) rfl ?_
      obtain ⟨u19, F20, r21, su22, kx23, ku24⟩ := itm_tup (n := 0) at0 r17
      obtain ⟨rfl, rfl⟩ := r21
      obtain ⟨u26, F27, r28, su29, kx30, ku31⟩ := itm_tup (n := 1) (atS at1) r17
      obtain ⟨rfl, rfl⟩ := r28
      refine q_if (ans_andB (ans_t (val_eqI (ku24 (val_var rfl) val_c) (val_var rfl))) (fun _ => (ans_t (val_inL r1 (ku31 (val_var rfl) val_c) (val_var rfl))))) (fun hb => ?_) (fun hb => ?_)
      ·
        replace hbe10 := Mi.ifT hb hbe10
        refine q_ret ?_
        refine c_val val_c ?_
        obtain rfl := Option.some.inj hbe10
        obtain rfl := Mi.or_inl hore10
        obtain rfl := Option.some.inj (Mi.orR_inl hm)
        exact hQ _ c0 
      replace hbe10 := Mi.ifF hb hbe10
      refine w_fall ?_
      obtain ⟨u32, F33, r34, su35, kx36, ku37⟩ := itm_tup (n := 1) (atS at1) r17
      obtain ⟨rfl, rfl⟩ := r34
      obtain ⟨u39, F40, r41, su42, kx43, ku44⟩ := itm_tup (n := 0) at0 r17
      obtain ⟨rfl, rfl⟩ := r41
      refine q_if (ans_andB (ans_t (val_eqI (ku37 (val_var rfl) val_c) (val_var rfl))) (fun _ => (ans_t (val_inL r1 (ku44 (val_var rfl) val_c) (val_var rfl))))) (fun hb => ?_) (fun hb => ?_)
      ·
        replace hbe10 := Mi.ifT hb hbe10
        refine q_ret ?_
        refine c_val val_c ?_
        obtain rfl := Option.some.inj hbe10
        obtain rfl := Mi.or_inl hore10
        obtain rfl := Option.some.inj (Mi.orR_inl hm)
        exact hQ _ c0 
      replace hbe10 := Mi.ifF hb hbe10
      refine w_fall ?_
      refine w_nextJ ?_
      obtain rfl := Option.some.inj hbe10
      replace hore10 := Mi.or_inr hore10
      exact ⟨_, (some u16), rfl, c0, r0, r1, r6, hore10⟩
    obtain ⟨s11, y12, rfl, c0, r0, r1, r6, hle10⟩ := hp
    obtain rfl := Mi.forR_end hle10
    replace hm := Mi.orR_inr hm
    refine q_ret ?_
    refine c_val val_c ?_
    obtain rfl := Option.some.inj hm
    exact hQ _ c0 
abbrev s_l_lanes : Stmt := topS 42
abbrev N_l_lanes : List Str := ["_law_sea_here", "_law_craft_here", "_law_when", "_law_start", "_law_size", "_law_wet", "_law_told", "_law_here", "_law_count", "_law_place"]
theorem sc_l_lanes : FnScope ["_law_sea_here", "_law_craft_here", "_law_when", "_law_start", "_law_size", "_law_wet", "_law_told", "_law_here", "_law_count", "_law_place"] ["_law_sea_here", "_law_craft_here", "_law_when", "_law_start"] (defScope s_l_lanes) := ⟨rfl, rfl, rfl, by decide +kernel, rfl, by decide +kernel, by decide +kernel⟩
def sp_l_lanes (K : PySem.W.Frag) : Sp := fun vs H Q _ => ∃ (v0 : V) (F0 : List Addr) (d0 : ((List Int) × (List (Int × Int)) × (List Int) × (List Int))) (v1 : V) (d1 : (Int × Int × Int × Int × Int)) (d2 : Int) (d3 : Int) (r : (List (Option Int))), vs = [v0, v1, (.int d2), (.int d3)] ∧ (yTup (sCons (yLst yInt) (sCons (yLst (yTup (sCons yInt (sOne yInt)))) (sCons (yLst yInt) (sOne (yLst yInt)))))).rep K H F0 v0 d0 ∧ (yTup (sCons yInt (sCons yInt (sCons yInt (sCons yInt (sOne yInt)))))).rep K H [] v1 d1 ∧ Mi.m_l_lanes d0 d1 d2 d3 = some r ∧ ∀ v H' F, Chg ([]) H H' → (yLst (yOpt yInt)).rep K H' F v r → (∀ a ∈ F, H a = none) → Q v H'
theorem ok_l_lanes (B : Bi mg) (CN : Cs K mg) (D : Dfn K mg "_law_lanes" s_l_lanes) (C_l_water : Cal P w K mg "_law_water" ["_law_sea_here", "_law_place", "_law_when"] 1 (sp_l_water K)) (C_l_touches : Cal P w K mg "_law_touches" ["_law_sea_here", "_law_here", "_law_place"] 1 (sp_l_touches K)) : Cal P w K mg "_law_lanes" ["_law_sea_here", "_law_craft_here", "_law_when", "_law_start"] 2 (sp_l_lanes K) := by
  obtain ⟨f, fd, F, g⟩ := D.ex
  refine ⟨f, fd, g, F.kp, bindsF F (fun _ _ _ _ _ _ us hl => match us, hl with | [_, _, _, _], _ => rfl), fun base => F.ok sc_l_lanes (fun vs H Q E h => ?_) (fun cdv A outer s H0 vs Q E hr h => ?_)⟩
  · obtain ⟨v0, F0, d0, v1, d1, d2, d3, r, rfl, r0, r1, hm, hQ⟩ := h; rfl
  ·
    obtain ⟨v0, F0, d0, v1, d1, d2, d3, r, rfl, r0, r1, hm, hQ⟩ := h
    refine ⟨_, pss_cons (ps_set (i := 4) sc_l_lanes.nd rfl (.inl rfl) (pe_callB (cl_len (K := K)) (by rfl) B.len PySem.boot_len (pa_cons (pe_ix (ix_t (K := K)) (pv 0) pe_int (fun _ _ => rfl)) pa_nil)))
      (pss_cons (ps_set (i := 5) sc_l_lanes.nd rfl (.inr rfl) (pe_lc (own := [("_law_place", 9)]) rfl sc_l_lanes.nd (pi_range1 (by rfl) B.range (pa_cons (pv 4) pa_nil)) (blkOk_by (own := [("_law_place", 9)]) (N := N_l_lanes) (sc := defScope s_l_lanes) (by decide +kernel)) (fun _ _ _ _ _ => (pg_name (i := 9) sc_l_lanes.nd rfl (.inl rfl))) (fun _ _ _ _ _ => pts_nil) (fun _ _ _ _ _ => (pe_cmpR op_ge (pe_cc C_l_water hr (pa_cons (pv 0) (pa_cons (pv 9) (pa_cons (pv 2) pa_nil)))) (pe_ix (ix_t (K := K)) (pv 1) pe_int (fun _ _ => rfl)) (nomark _)))))
      (pss_cons (ps_setLc (i := 6) (own := [("_law_place", 9)]) rfl sc_l_lanes.nd rfl rfl (sw_true rfl rfl rfl (by decide +kernel)) (pi_range1 (by rfl) B.range (pa_cons (pv 4) pa_nil)) (blkOk_by (own := [("_law_place", 9)]) (N := N_l_lanes) (sc := defScope s_l_lanes) (by decide +kernel)) (fun _ _ _ _ _ => (pg_name (i := 9) sc_l_lanes.nd rfl (.inl rfl))) (fun _ _ _ _ _ => pts_nil) (fun _ _ _ _ _ => pe_non))
      (pss_cons (ps_if (pt_cmpR op_eq (pe_ix (ix_t (K := K)) (pv 1) pe_int (fun _ _ => rfl)) pe_int (nomark _)) (pss_cons (ps_asg pe_int (pg_sub (pv 6) (pv 3) set_list))
      (pss_nil)) (pss_nil))
      (pss_cons (ps_set (i := 7) sc_l_lanes.nd rfl (.inr rfl) (pe_lst pa_nil))
      (pss_cons (ps_if (pt_val (pe_ix (ix_l (K := K)) (pv 5) (pv 3) (fun _ _ => rfl))) (pss_cons (ps_set (i := 7) sc_l_lanes.nd rfl (.inr rfl) (pe_lst (pa_cons (pv 3) pa_nil)))
      (pss_nil)) (pss_nil))
      (pss_cons (ps_for PassesOwn.never rfl (pi_range2 (by rfl) B.range (pa_cons pe_int (pa_cons (pe_op op_add (pe_ix (ix_t (K := K)) (pv 1) pe_int (fun _ _ => rfl)) pe_int) pa_nil))) (pg_name (i := 8) sc_l_lanes.nd rfl (.inl rfl)) (pss_cons (ps_set (i := 7) sc_l_lanes.nd rfl (.inr rfl) (pe_lc (own := [("_law_place", 9)]) rfl sc_l_lanes.nd (pi_range1 (by rfl) B.range (pa_cons (pv 4) pa_nil)) (blkOk_by (own := [("_law_place", 9)]) (N := N_l_lanes) (sc := defScope s_l_lanes) (by decide +kernel)) (fun _ _ _ _ _ => (pg_name (i := 9) sc_l_lanes.nd rfl (.inl rfl))) (fun _ _ _ _ _ => (pts_one (PW.pt (pw_and (pt_val (pe_ix (ix_l (K := K)) (pv 5) (pv 9) (fun _ _ => rfl))) (pw_and1 (pt_val (pe_cc C_l_touches hr (pa_cons (pv 0) (pa_cons (pv 7) (pa_cons (pv 9) pa_nil)))))))))) (fun _ _ _ _ _ => (pv 9))))
      (pss_cons (ps_for PassesOwn.never rfl (pi_list (pv 7)) (pg_name (i := 9) sc_l_lanes.nd rfl (.inl rfl)) (pss_cons (ps_if (PW.pt (pw_and (pt_cmpR op_ge (pv 8) (pe_ix (ix_t (K := K)) (pv 1) pe_int (fun _ _ => rfl)) (nomark _)) (pw_and1 (pt_cmpR op_isN1 (pe_ix (ix_l (K := K)) (pv 6) (pv 9) (fun _ _ => rfl)) pe_non (nomark _))))) (pss_cons (ps_asg (pv 8) (pg_sub (pv 6) (pv 9) set_list))
      (pss_nil)) (pss_nil))
      (pss_nil)))
      (pss_nil))))
      (pss_cons (ps_ret (pv 6)) pss_nil))))))), ?_⟩
    have c0 : Chg ([] : List Addr) H0 H0 := Chg.refl H0
    unfold Mi.m_l_lanes at hm
    obtain ⟨u5, F6, r7, su8, kx9, ku10⟩ := itm_tup (n := 0) at0 r0
    obtain ⟨size11, hsize11, hm⟩ := Mi.letE hm
    refine q_setE (val_lenL r7 (ku10 (val_var rfl) val_c)) (congrArg V.int hsize11) (σ' := [some v0, some v1, some (.int d2), some (.int d3), some (.int size11), none, none, none, none, none]) rfl ?_
    refine q_asg ?_
    refine w_lc ?_
    refine w_iRng1 ?_
    refine w_args (va_cons (val_var rfl) va_nil) ?_
    obtain ⟨g12, hg12, hm⟩ := Mi.bnd hm
    obtain ⟨e13, he13, hm⟩ := Mi.bnd hm
    refine kc_rng1 (K := K) (τ := yBool) hg12 (fun D15 i H' => ∃ (s14 : (List Bool)), Chg ([] : List Addr) H0 H' ∧ (yTup (sCons (yLst yInt) (sCons (yLst (yTup (sCons yInt (sOne yInt)))) (sCons (yLst yInt) (sOne (yLst yInt)))))).rep K H' F0 v0 d0 ∧ (yTup (sCons yInt (sCons yInt (sCons yInt (sCons yInt (sOne yInt)))))).rep K H' [] v1 d1 ∧ (yLst yBool).rep K H' [D15] (.ref D15) s14 ∧ Dj F0 [D15] ∧ (∀ a ∈ [D15], H0 a = none) ∧ Mi.forN (Mi.m_l_lanes_b1 d0 d1 d2) s14 (List.drop i g12) = some e13) (fun D15 H21 np20 c19 r16 => ⟨([] : (List Bool)), c0.trans c19.none, (Ty.ex r0 c19), (Ty.fz r1 c19), r16, Ty.nin r0 np20, one_fresh (c0.dom D15 np20), he13⟩) (fun D15 i24 x23 H25 hx22 hp => ?_) (fun D15 H' np20 hp => ?_)
    ·
      obtain ⟨s14, c0, r0, r1, r16, d17, n18, hle13⟩ := hp
      obtain ⟨_, hbe13, hle13⟩ := Mi.forN_go hle13 hx22
      unfold Mi.m_l_lanes_b1 at hbe13
      refine g_name (σ' := [some v0, some v1, some (.int d2), some (.int d3), some (.int size11), none, none, none, none, some (.int x23)]) rfl ?_
      refine ⟨rfl, ?_⟩
      refine w_yes ?_
      refine iteT ?_
      refine w_op ?_
      refine w_call ?_
      refine w_args (va_cons (val_var rfl) (va_cons (val_var rfl) (va_cons (val_var rfl) va_nil))) ?_
      obtain ⟨q32, hq32, hbe13⟩ := Mi.bnd hbe13
      refine ⟨v0, F0, d0, x23, d2, q32, rfl, r0, hq32, fun H34 c33  => ?_⟩
      have r0 := Ty.ex r0 c33
      have r1 := Ty.fz r1 c33
      have r16 := Ty.ex r16 c33
      have c0 := c0.trans c33.none
      obtain ⟨u35, F36, r37, su38, kx39, ku40⟩ := itm_tup (n := 0) at0 r1
      obtain ⟨rfl, rfl⟩ := r37
      refine c_val (ku40 (val_var rfl) val_c) ?_
      refine w_I0 ?_
      obtain ⟨x41, hx41, hbe13⟩ := Mi.bnd hbe13
      refine e_app r16 yBool_i hx41 fun H43 c42 r16 => ?_
      have r0 := Ty.chg r0 c42 d17
      have r1 := Ty.fz r1 c42
      have c0 := c0.join c42 (fun a h => .inr (n18 a h))
      obtain rfl := Option.some.inj hbe13
      exact ⟨x41, c0, r0, r1, r16, d17, n18, hle13⟩
    obtain ⟨s14, c0, r0, r1, r16, d17, n18, hle13⟩ := hp
    obtain rfl := Mi.forN_end hle13
    refine g_name (σ' := [some v0, some v1, some (.int d2), some (.int d3), some (.int size11), some (.ref D15), none, none, none, none]) rfl ?_
    refine q_asg ?_
    refine w_lc ?_
    refine w_iRng1 ?_
    refine w_args (va_cons (val_var rfl) va_nil) ?_
    obtain ⟨g44, hg44, hm⟩ := Mi.bnd hm
    obtain ⟨e45, he45, hm⟩ := Mi.bnd hm
    refine kc_rng1 (K := K) (τ := (yOpt yInt)) hg44 (fun D47 i H' => ∃ (s46 : (List (Option Int))), Chg ([] : List Addr) H0 H' ∧ (yTup (sCons (yLst yInt) (sCons (yLst (yTup (sCons yInt (sOne yInt)))) (sCons (yLst yInt) (sOne (yLst yInt)))))).rep K H' F0 v0 d0 ∧ (yTup (sCons yInt (sCons yInt (sCons yInt (sCons yInt (sOne yInt)))))).rep K H' [] v1 d1 ∧ (yLst yBool).rep K H' [D15] (.ref D15) s14 ∧ (yLst (yOpt yInt)).rep K H' [D47] (.ref D47) s46 ∧ Dj F0 [D47] ∧ Dj [D15] [D47] ∧ (∀ a ∈ [D47], H0 a = none) ∧ Mi.forN (Mi.m_l_lanes_b2) s46 (List.drop i g44) = some e45) (fun D47 H54 np53 c52 r48 => ⟨([] : (List (Option Int))), c0.trans c52.none, (Ty.ex r0 c52), (Ty.fz r1 c52), (Ty.ex r16 c52), r48, Ty.nin r0 np53, Ty.nin r16 np53, one_fresh (c0.dom D47 np53), he45⟩) (fun D47 i57 x56 H58 hx55 hp => ?_) (fun D47 H' np53 hp => ?_)
    ·
      obtain ⟨s46, c0, r0, r1, r16, r48, d49, d50, n51, hle45⟩ := hp
      obtain ⟨_, hbe45, hle45⟩ := Mi.forN_go hle45 hx55
      unfold Mi.m_l_lanes_b2 at hbe45
      refine g_name (σ' := [some v0, some v1, some (.int d2), some (.int d3), some (.int size11), some (.ref D15), none, none, none, some (.int x56)]) rfl ?_
      refine ⟨rfl, ?_⟩
      refine w_yes ?_
      refine iteT ?_
      refine c_val val_c ?_
      obtain ⟨x65, hx65, hbe45⟩ := Mi.bnd hbe45
      refine e_app r48 opt_n hx65 fun H67 c66 r48 => ?_
      have r0 := Ty.chg r0 c66 d49
      have r1 := Ty.fz r1 c66
      have r16 := Ty.chg r16 c66 d50
      have c0 := c0.join c66 (fun a h => .inr (n51 a h))
      obtain rfl := Option.some.inj hbe45
      exact ⟨x65, c0, r0, r1, r16, r48, d49, d50, n51, hle45⟩
    obtain ⟨s46, c0, r0, r1, r16, r48, d49, d50, n51, hle45⟩ := hp
    obtain rfl := Mi.forN_end hle45
    refine g_name (σ' := [some v0, some v1, some (.int d2), some (.int d3), some (.int size11), some (.ref D15), some (.ref D47), none, none, none]) rfl ?_
    obtain ⟨s68, hs68, hm⟩ := Mi.bnd hm
    refine s_join (R := fun σ' H' => σ' = [some v0, some v1, some (.int d2), some (.int d3), some (.int size11), some (.ref D15), some (.ref D47), none, none, none] ∧ Chg ([] : List Addr) H0 H' ∧ (yTup (sCons (yLst yInt) (sCons (yLst (yTup (sCons yInt (sOne yInt)))) (sCons (yLst yInt) (sOne (yLst yInt)))))).rep K H' F0 v0 d0 ∧ (yTup (sCons yInt (sCons yInt (sCons yInt (sCons yInt (sOne yInt)))))).rep K H' [] v1 d1 ∧ (yLst yBool).rep K H' [D15] (.ref D15) s14 ∧ (yLst (yOpt yInt)).rep K H' [D47] (.ref D47) s68) (fun nx kx => ?_) (fun σ' H' hj => ?_)
    ·
      obtain ⟨u69, F70, r71, su72, kx73, ku74⟩ := itm_tup (n := 1) (atS at0) r1
      obtain ⟨rfl, rfl⟩ := r71
      refine s_if (ans_t (val_eqI (ku74 (val_var rfl) val_c) val_c)) (fun hb => ?_) (fun hb => ?_)
      ·
        replace hs68 := Mi.ifT hb hs68
        refine q_asg ?_
        refine c_val val_c ?_
        refine w_gsub ?_
        refine c_val (val_var rfl) ?_
        refine c_val (val_var rfl) ?_
        obtain ⟨x75, hx75, hs68⟩ := Mi.bnd hs68
        refine m_set r48 (opt_i nn_int yInt_i) hx75 fun H77 c76 r48 => ?_
        have r0 := Ty.chg r0 c76 d49
        have r1 := Ty.fz r1 c76
        have r16 := Ty.chg r16 c76 d50
        have c0 := c0.join c76 (fun a h => .inr (n51 a h))
        refine w_nextJ ?_
        obtain rfl := Option.some.inj hs68
        exact kx _ _ ⟨rfl, c0, r0, r1, r16, r48⟩
      ·
        replace hs68 := Mi.ifF hb hs68
        refine w_nextJ ?_
        obtain rfl := Option.some.inj hs68
        exact kx _ _ ⟨rfl, c0, r0, r1, r16, r48⟩
    obtain ⟨rfl, c0, r0, r1, r16, r48⟩ := hj
    refine q_asg ?_
    refine w_lst ?_
    refine w_args va_nil ?_
    refine e_lst (K := K) (τ := yInt) (by exact Nat.le_of_ble_eq_true rfl) .nil fun p78 H82 np81 c79 r80 => ?_
    have d83 : Dj F0 [p78] := Ty.nin r0 np81
    have d84 : Dj [D15] [p78] := Ty.nin r16 np81
    have d85 : Dj [D47] [p78] := Ty.nin r48 np81
    have n86 : ∀ a ∈ [p78], H0 a = none := one_fresh (c0.dom p78 np81)
    have r0 := Ty.ex r0 c79
    have r1 := Ty.fz r1 c79
    have r16 := Ty.ex r16 c79
    have r48 := Ty.ex r48 c79
    have c0 := c0.trans c79.none
    refine g_name (σ' := [some v0, some v1, some (.int d2), some (.int d3), some (.int size11), some (.ref D15), some (.ref D47), some (.ref p78), none, none]) rfl ?_
    obtain ⟨s87, hs87, hm⟩ := Mi.bnd hm
    refine s_join (R := fun σ' H' => ∃ (v88 : V) (F90 : List Addr), σ' = [some v0, some v1, some (.int d2), some (.int d3), some (.int size11), some (.ref D15), some (.ref D47), some v88, none, none] ∧ Chg ([] : List Addr) H0 H' ∧ (yTup (sCons (yLst yInt) (sCons (yLst (yTup (sCons yInt (sOne yInt)))) (sCons (yLst yInt) (sOne (yLst yInt)))))).rep K H' F0 v0 d0 ∧ (yTup (sCons yInt (sCons yInt (sCons yInt (sCons yInt (sOne yInt)))))).rep K H' [] v1 d1 ∧ (yLst yBool).rep K H' [D15] (.ref D15) s14 ∧ (yLst (yOpt yInt)).rep K H' [D47] (.ref D47) s68 ∧ (yLst yInt).rep K H' F90 v88 s87 ∧ (∀ a ∈ F90, H0 a = none) ∧ Dj F90 F0 ∧ Dj F90 [D15] ∧ Dj F90 [D47]) (fun nx kx => ?_) (fun σ' H' hj => ?_)
    ·
      obtain ⟨x95, hx95, hs87⟩ := Mi.bnd hs87
      obtain ⟨u96, r97, ku98⟩ := itm_L r16 hx95
      obtain ⟨_, rfl⟩ := r97
      refine s_if (ans_B (ku98 (val_var rfl) (val_var rfl))) (fun hb => ?_) (fun hb => ?_)
      ·
        replace hs87 := Mi.ifT hb hs87
        refine q_asg ?_
        refine w_lst ?_
        refine w_args (va_cons (val_var rfl) va_nil) ?_
        refine e_lst (K := K) (τ := yInt) (by exact Nat.le_of_ble_eq_true rfl) (.cons yInt_i .nil) fun p99 H103 np102 c100 r101 => ?_
        have d104 : Dj F0 [p99] := Ty.nin r0 np102
        have d105 : Dj [D15] [p99] := Ty.nin r16 np102
        have d106 : Dj [D47] [p99] := Ty.nin r48 np102
        have d107 : Dj [p78] [p99] := Ty.nin r80 np102
        have n108 : ∀ a ∈ [p99], H0 a = none := one_fresh (c0.dom p99 np102)
        have r0 := Ty.ex r0 c100
        have r1 := Ty.fz r1 c100
        have r16 := Ty.ex r16 c100
        have r48 := Ty.ex r48 c100
        have r80 := Ty.ex r80 c100
        have c0 := c0.trans c100.none
        refine g_name (σ' := [some v0, some v1, some (.int d2), some (.int d3), some (.int size11), some (.ref D15), some (.ref D47), some (.ref p99), none, none]) rfl ?_
        refine w_nextJ ?_
        obtain rfl := Option.some.inj hs87
        exact kx _ _ ⟨(.ref p99), [p99], rfl, c0, r0, r1, r16, r48, r101, n108, d104.symm, d105.symm, d106.symm⟩
      ·
        replace hs87 := Mi.ifF hb hs87
        refine w_nextJ ?_
        obtain rfl := Option.some.inj hs87
        exact kx _ _ ⟨(.ref p78), [p78], rfl, c0, r0, r1, r16, r48, r80, n86, d83.symm, d84.symm, d85.symm⟩
    obtain ⟨v88, F90, rfl, c0, r0, r1, r16, r48, r89, n91, d92, d93, d94⟩ := hj
    refine q_for ?_
    refine w_iRng2 ?_
    obtain ⟨u109, F110, r111, su112, kx113, ku114⟩ := itm_tup (n := 2) (atS (atS at0)) r1
    obtain ⟨rfl, rfl⟩ := r111
    refine w_args (va_cons val_c (va_cons (val_add (ku114 (val_var rfl) val_c) val_c) va_nil)) ?_
    obtain ⟨g115, hg115, hm⟩ := Mi.bnd hm
    obtain ⟨e116, he116, hm⟩ := Mi.bnd hm
    refine l_rng2 hg115 (fun i σ' H' => ∃ (s117 : ((List (Option Int)) × (List Int))) (y122 : Option V) (y123 : Option V) (v118 : V) (F120 : List Addr), σ' = [some v0, some v1, some (.int d2), some (.int d3), some (.int size11), some (.ref D15), some (.ref D47), some v118, y122, y123] ∧ Chg ([] : List Addr) H0 H' ∧ (yTup (sCons (yLst yInt) (sCons (yLst (yTup (sCons yInt (sOne yInt)))) (sCons (yLst yInt) (sOne (yLst yInt)))))).rep K H' F0 v0 d0 ∧ (yTup (sCons yInt (sCons yInt (sCons yInt (sCons yInt (sOne yInt)))))).rep K H' [] v1 d1 ∧ (yLst yBool).rep K H' [D15] (.ref D15) s14 ∧ (yLst (yOpt yInt)).rep K H' [D47] (.ref D47) s117.1 ∧ (yLst yInt).rep K H' F120 v118 s117.2 ∧ (∀ a ∈ F120, H0 a = none) ∧ Dj F120 F0 ∧ Dj F120 [D15] ∧ Dj F120 [D47] ∧ Mi.forN (Mi.m_l_lanes_b3 d0 d1 size11 s14) s117 (List.drop i g115) = some e116) ⟨(s68, s87), none, none, v88, F90, rfl, c0, r0, r1, r16, r48, r89, n91, d92, d93, d94, he116⟩ (fun i129 x128 σ' H' hx127 hp => ?_) (fun σ' H' hp => ?_)
    ·
      obtain ⟨s117, y122, y123, v118, F120, rfl, c0, r0, r1, r16, r48, r119, n121, d124, d125, d126, hle116⟩ := hp
      obtain ⟨_, hbe116, hle116⟩ := Mi.forN_go hle116 hx127
      unfold Mi.m_l_lanes_b3 at hbe116
      refine g_name (σ' := [some v0, some v1, some (.int d2), some (.int d3), some (.int size11), some (.ref D15), some (.ref D47), some v118, some (.int x128), y123]) rfl ?_
      refine q_asg ?_
      refine w_lc ?_
      refine w_iRng1 ?_
      refine w_args (va_cons (val_var rfl) va_nil) ?_
      obtain ⟨g130, hg130, hbe116⟩ := Mi.bnd hbe116
      obtain ⟨e131, he131, hbe116⟩ := Mi.bnd hbe116
      refine kc_rng1 (K := K) (τ := yInt) hg130 (fun D133 i H' => ∃ (s132 : (List Int)), Chg ([] : List Addr) H0 H' ∧ (yTup (sCons (yLst yInt) (sCons (yLst (yTup (sCons yInt (sOne yInt)))) (sCons (yLst yInt) (sOne (yLst yInt)))))).rep K H' F0 v0 d0 ∧ (yTup (sCons yInt (sCons yInt (sCons yInt (sCons yInt (sOne yInt)))))).rep K H' [] v1 d1 ∧ (yLst yBool).rep K H' [D15] (.ref D15) s14 ∧ (yLst (yOpt yInt)).rep K H' [D47] (.ref D47) s117.1 ∧ (yLst yInt).rep K H' F120 v118 s117.2 ∧ (yLst yInt).rep K H' [D133] (.ref D133) s132 ∧ Dj F0 [D133] ∧ Dj [D15] [D133] ∧ Dj [D47] [D133] ∧ Dj F120 [D133] ∧ (∀ a ∈ [D133], H0 a = none) ∧ Mi.forN (Mi.m_l_lanes_b4 d0 s14 s117) s132 (List.drop i g130) = some e131) (fun D133 H142 np141 c140 r134 => ⟨([] : (List Int)), c0.trans c140.none, (Ty.ex r0 c140), (Ty.fz r1 c140), (Ty.ex r16 c140), (Ty.ex r48 c140), (Ty.ex r119 c140), r134, Ty.nin r0 np141, Ty.nin r16 np141, Ty.nin r48 np141, Ty.nin r119 np141, one_fresh (c0.dom D133 np141), he131⟩) (fun D133 i145 x144 H146 hx143 hp => ?_) (fun D133 H' np141 hp => ?_)
      ·
        obtain ⟨s132, c0, r0, r1, r16, r48, r119, r134, d135, d136, d137, d138, n139, hle131⟩ := hp
        obtain ⟨_, hbe131, hle131⟩ := Mi.forN_go hle131 hx143
        unfold Mi.m_l_lanes_b4 at hbe131
        refine g_name (σ' := [some v0, some v1, some (.int d2), some (.int d3), some (.int size11), some (.ref D15), some (.ref D47), some v118, some (.int x128), some (.int x144)]) rfl ?_
        refine ⟨rfl, ?_⟩
        obtain ⟨b153, hb153, hbe131⟩ := Mi.bnd hbe131
        refine j_tt b153 (R := fun H' => Chg ([] : List Addr) H0 H' ∧ (yTup (sCons (yLst yInt) (sCons (yLst (yTup (sCons yInt (sOne yInt)))) (sCons (yLst yInt) (sOne (yLst yInt)))))).rep K H' F0 v0 d0 ∧ (yTup (sCons yInt (sCons yInt (sCons yInt (sCons yInt (sOne yInt)))))).rep K H' [] v1 d1 ∧ (yLst yBool).rep K H' [D15] (.ref D15) s14 ∧ (yLst (yOpt yInt)).rep K H' [D47] (.ref D47) s117.1 ∧ (yLst yInt).rep K H' F120 v118 s117.2 ∧ (yLst yInt).rep K H' [D133] (.ref D133) s132) (fun Q' kq => ?_) (fun H' hj => ?_)
        ·
          refine w_and ?_
          obtain ⟨x154, hx154, hb153⟩ := Mi.bnd hb153
          obtain ⟨u155, r156, ku157⟩ := itm_L r16 hx154
          obtain ⟨_, rfl⟩ := r156
          refine c_ans (ans_B (ku157 (val_var rfl) (val_var rfl))) ?_
          refine c_if (fun hb => ?_) (fun hb => ?_)
          rotate_left
          ·
            replace hb153 := Mi.ifF hb hb153
            obtain rfl := Option.some.inj hb153
            exact kq _ ⟨c0, r0, r1, r16, r48, r119, r134⟩
          replace hb153 := Mi.ifT hb hb153
          refine w_B ?_
          refine w_call ?_
          refine w_args (va_cons (val_var rfl) (va_cons (val_var rfl) (va_cons (val_var rfl) va_nil))) ?_
          obtain ⟨q158, hq158, hb153⟩ := Mi.bnd hb153
          refine ⟨v0, F0, d0, v118, F120, s117.2, x144, q158, rfl, r0, r119, hq158, fun H160 c159  => ?_⟩
          have r0 := Ty.ex r0 c159
          have r1 := Ty.fz r1 c159
          have r16 := Ty.ex r16 c159
          have r48 := Ty.ex r48 c159
          have r119 := Ty.ex r119 c159
          have r134 := Ty.ex r134 c159
          have c0 := c0.trans c159.none
          refine ⟨_, rfl, ?_⟩
          obtain rfl := Option.some.inj hb153
          exact kq _ ⟨c0, r0, r1, r16, r48, r119, r134⟩
        obtain ⟨c0, r0, r1, r16, r48, r119, r134⟩ := hj
        refine c_if (fun hb => ?_) (fun hb => ?_)
        ·
          replace hbe131 := Mi.ifT hb hbe131
          refine c_val (val_var rfl) ?_
          obtain ⟨x161, hx161, hbe131⟩ := Mi.bnd hbe131
          refine e_app r134 yInt_i hx161 fun H163 c162 r134 => ?_
          have r0 := Ty.chg r0 c162 d135
          have r1 := Ty.fz r1 c162
          have r16 := Ty.chg r16 c162 d136
          have r48 := Ty.chg r48 c162 d137
          have r119 := Ty.chg r119 c162 d138
          have c0 := c0.join c162 (fun a h => .inr (n139 a h))
          obtain rfl := Option.some.inj hbe131
          exact ⟨x161, c0, r0, r1, r16, r48, r119, r134, d135, d136, d137, d138, n139, hle131⟩
        ·
          replace hbe131 := Mi.ifF hb hbe131
          obtain rfl := Option.some.inj hbe131
          exact ⟨s132, c0, r0, r1, r16, r48, r119, r134, d135, d136, d137, d138, n139, hle131⟩
      obtain ⟨s132, c0, r0, r1, r16, r48, r119, r134, d135, d136, d137, d138, n139, hle131⟩ := hp
      obtain rfl := Mi.forN_end hle131
      refine g_name (σ' := [some v0, some v1, some (.int d2), some (.int d3), some (.int size11), some (.ref D15), some (.ref D47), some (.ref D133), some (.int x128), y123]) rfl ?_
      refine q_for ?_
      refine w_iList ?_
      refine c_val (val_var rfl) ?_
      obtain ⟨e164, he164, hbe116⟩ := Mi.bnd hbe116
      refine l_lst r134 (fun i σ' H' => ∃ (s165 : (List (Option Int))) (y166 : Option V), σ' = [some v0, some v1, some (.int d2), some (.int d3), some (.int size11), some (.ref D15), some (.ref D47), some (.ref D133), some (.int x128), y166] ∧ Chg ([] : List Addr) H0 H' ∧ (yTup (sCons (yLst yInt) (sCons (yLst (yTup (sCons yInt (sOne yInt)))) (sCons (yLst yInt) (sOne (yLst yInt)))))).rep K H' F0 v0 d0 ∧ (yTup (sCons yInt (sCons yInt (sCons yInt (sCons yInt (sOne yInt)))))).rep K H' [] v1 d1 ∧ (yLst yBool).rep K H' [D15] (.ref D15) s14 ∧ (yLst (yOpt yInt)).rep K H' [D47] (.ref D47) s165 ∧ (yLst yInt).rep K H' [D133] (.ref D133) s132 ∧ Mi.forN (Mi.m_l_lanes_b5 d1 x128) s165 (List.drop i s132) = some e164) ⟨s117.1, y123, rfl, c0, r0, r1, r16, r48, r134, he164⟩ (fun i σ' H' hp => by obtain ⟨s165, y166, rfl, c0, r0, r1, r16, r48, r134, _⟩ := hp; exact r134) (fun i169 x168 u170 σ' H' hx167 r171 hp => ?_) (fun σ' H' hp => ?_)
      ·
        obtain ⟨s165, y166, rfl, c0, r0, r1, r16, r48, r134, hle164⟩ := hp
        obtain ⟨_, hbe164, hle164⟩ := Mi.forN_go hle164 hx167
        unfold Mi.m_l_lanes_b5 at hbe164
        obtain ⟨_, rfl⟩ := r171
        refine g_name (σ' := [some v0, some v1, some (.int d2), some (.int d3), some (.int size11), some (.ref D15), some (.ref D47), some (.ref D133), some (.int x128), some (.int x168)]) rfl ?_
        obtain ⟨s172, hs172, hbe164⟩ := Mi.bnd hbe164
        refine s_join (R := fun σ' H' => σ' = [some v0, some v1, some (.int d2), some (.int d3), some (.int size11), some (.ref D15), some (.ref D47), some (.ref D133), some (.int x128), some (.int x168)] ∧ Chg ([] : List Addr) H0 H' ∧ (yTup (sCons (yLst yInt) (sCons (yLst (yTup (sCons yInt (sOne yInt)))) (sCons (yLst yInt) (sOne (yLst yInt)))))).rep K H' F0 v0 d0 ∧ (yTup (sCons yInt (sCons yInt (sCons yInt (sCons yInt (sOne yInt)))))).rep K H' [] v1 d1 ∧ (yLst yBool).rep K H' [D15] (.ref D15) s14 ∧ (yLst (yOpt yInt)).rep K H' [D47] (.ref D47) s172 ∧ (yLst yInt).rep K H' [D133] (.ref D133) s132) (fun nx kx => ?_) (fun σ' H' hj => ?_)
        ·
          obtain ⟨u173, F174, r175, su176, kx177, ku178⟩ := itm_tup (n := 1) (atS at0) r1
          obtain ⟨rfl, rfl⟩ := r175
          obtain ⟨b184, hb184, hs172⟩ := Mi.bnd hs172
          refine s_if (ans_andO (ans_t (val_ge (val_var rfl) (ku178 (val_var rfl) val_c))) hb184 (fun hs179 => by (obtain ⟨x180, hx180, hs179⟩ := Mi.bnd hs179; obtain ⟨u181, r182, ku183⟩ := itm_L r48 hx180; cases hs179; exact (ans_t (val_isN r182 (ku183 (val_var rfl) (val_var rfl))))))) (fun hb => ?_) (fun hb => ?_)
          ·
            replace hs172 := Mi.ifT hb hs172
            refine q_asg ?_
            refine c_val (val_var rfl) ?_
            refine w_gsub ?_
            refine c_val (val_var rfl) ?_
            refine c_val (val_var rfl) ?_
            obtain ⟨x185, hx185, hs172⟩ := Mi.bnd hs172
            refine m_set r48 (opt_i nn_int yInt_i) hx185 fun H187 c186 r48 => ?_
            have r0 := Ty.chg r0 c186 d49
            have r1 := Ty.fz r1 c186
            have r16 := Ty.chg r16 c186 d50
            have r134 := Ty.chg r134 c186 d137.symm
            have c0 := c0.join c186 (fun a h => .inr (n51 a h))
            refine w_nextJ ?_
            obtain rfl := Option.some.inj hs172
            exact kx _ _ ⟨rfl, c0, r0, r1, r16, r48, r134⟩
          ·
            replace hs172 := Mi.ifF hb hs172
            refine w_nextJ ?_
            obtain rfl := Option.some.inj hs172
            exact kx _ _ ⟨rfl, c0, r0, r1, r16, r48, r134⟩
        obtain ⟨rfl, c0, r0, r1, r16, r48, r134⟩ := hj
        refine w_nextJ ?_
        obtain rfl := Option.some.inj hbe164
        exact ⟨_, (some (.int x168)), rfl, c0, r0, r1, r16, r48, r134, hle164⟩
      obtain ⟨s165, y166, rfl, c0, r0, r1, r16, r48, r134, hle164⟩ := hp
      obtain rfl := Mi.forN_end hle164
      refine w_nextJ ?_
      obtain rfl := Option.some.inj hbe116
      exact ⟨_, (some (.int x128)), y166, (.ref D133), [D133], rfl, c0, r0, r1, r16, r48, r134, n139, d135.symm, d136.symm, d137.symm, hle116⟩
    obtain ⟨s117, y122, y123, v118, F120, rfl, c0, r0, r1, r16, r48, r119, n121, d124, d125, d126, hle116⟩ := hp
    obtain rfl := Mi.forN_end hle116
    refine q_ret ?_
    refine c_val (val_var rfl) ?_
    obtain rfl := Option.some.inj hm
    exact hQ _ _ _ c0 r48 n51 
abbrev s_l_filled : Stmt := topS 43
abbrev N_l_filled : List Str := ["_law_sea_here", "_law_craft_here", "_law_place", "_law_amount"]
theorem sc_l_filled : FnScope ["_law_sea_here", "_law_craft_here", "_law_place", "_law_amount"] ["_law_sea_here", "_law_craft_here", "_law_place", "_law_amount"] (defScope s_l_filled) := ⟨rfl, rfl, rfl, by decide +kernel, rfl, by decide +kernel, by decide +kernel⟩
def sp_l_filled (K : PySem.W.Frag) : Sp := fun vs H Q _ => ∃ (v0 : V) (F0 : List Addr) (d0 : ((List Int) × (List (Int × Int)) × (List Int) × (List Int))) (v1 : V) (d1 : (Int × Int × Int × Int × Int)) (d2 : Int) (d3 : Int) (r : Int), vs = [v0, v1, (.int d2), (.int d3)] ∧ (yTup (sCons (yLst yInt) (sCons (yLst (yTup (sCons yInt (sOne yInt)))) (sCons (yLst yInt) (sOne (yLst yInt)))))).rep K H F0 v0 d0 ∧ (yTup (sCons yInt (sCons yInt (sCons yInt (sCons yInt (sOne yInt)))))).rep K H [] v1 d1 ∧ Mi.m_l_filled d0 d1 d2 d3 = some r ∧ ∀ H', Chg ([]) H H' → Q (.int r) H'
theorem ok_l_filled (B : Bi mg) (CN : Cs K mg) (D : Dfn K mg "_law_filled" s_l_filled)  : Cal P w K mg "_law_filled" ["_law_sea_here", "_law_craft_here", "_law_place", "_law_amount"] 1 (sp_l_filled K) := by
  obtain ⟨f, fd, F, g⟩ := D.ex
  refine ⟨f, fd, g, F.kp, bindsF F (fun _ _ _ _ _ _ us hl => match us, hl with | [_, _, _, _], _ => rfl), fun base => F.ok sc_l_filled (fun vs H Q E h => ?_) (fun cdv A outer s H0 vs Q E hr h => ?_)⟩
  · obtain ⟨v0, F0, d0, v1, d1, d2, d3, r, rfl, r0, r1, hm, hQ⟩ := h; rfl
  ·
    obtain ⟨v0, F0, d0, v1, d1, d2, d3, r, rfl, r0, r1, hm, hQ⟩ := h
    refine ⟨_, pss_cons (ps_if (pt_cmpR (op_in_q (K := K)) (pv 2) (pe_ix (ix_t (K := K)) (pv 0) pe_int (fun _ _ => rfl)) (by rfl)) (pss_cons (ps_ret (pe_ix (ix_t (K := K)) (pv 1) pe_int (fun _ _ => rfl))) pss_nil) (pss_nil))
      (pss_cons (ps_ret (pv 3)) pss_nil), ?_⟩
    have c0 : Chg ([] : List Addr) H0 H0 := Chg.refl H0
    unfold Mi.m_l_filled at hm
    obtain ⟨u5, F6, r7, su8, kx9, ku10⟩ := itm_tup (n := 3) (atS (atS (atS at1))) r0
    refine q_if (ans_t (val_inL r7 (val_var rfl) (ku10 (val_var rfl) val_c))) (fun hb => ?_) (fun hb => ?_)
    ·
      replace hm := Mi.ifT hb hm
      refine q_ret ?_
      obtain ⟨u11, F12, r13, su14, kx15, ku16⟩ := itm_tup (n := 3) (atS (atS (atS at0))) r1
      obtain ⟨rfl, rfl⟩ := r13
      refine c_val (ku16 (val_var rfl) val_c) ?_
      obtain rfl := Option.some.inj hm
      exact hQ _ c0 
    replace hm := Mi.ifF hb hm
    refine w_fall ?_
    refine q_ret ?_
    refine c_val (val_var rfl) ?_
    obtain rfl := Option.some.inj hm
    exact hQ _ c0 
abbrev s_l_fuels : Stmt := topS 44
abbrev N_l_fuels : List Str := ["_law_sea_here", "_law_craft_here", "_law_path", "_law_amounts_here", "_law_when", "_law_lanes_here"]
theorem sc_l_fuels : FnScope ["_law_sea_here", "_law_craft_here", "_law_path", "_law_amounts_here", "_law_when", "_law_lanes_here"] ["_law_sea_here", "_law_craft_here", "_law_path"] (defScope s_l_fuels) := ⟨rfl, rfl, rfl, by decide +kernel, rfl, by decide +kernel, by decide +kernel⟩
def sp_l_fuels (K : PySem.W.Frag) : Sp := fun vs H Q _ => ∃ (v0 : V) (F0 : List Addr) (d0 : ((List Int) × (List (Int × Int)) × (List Int) × (List Int))) (v1 : V) (d1 : (Int × Int × Int × Int × Int)) (v2 : V) (F2 : List Addr) (d2 : (List Int)) (r : (Option (List Int))), vs = [v0, v1, v2] ∧ (yTup (sCons (yLst yInt) (sCons (yLst (yTup (sCons yInt (sOne yInt)))) (sCons (yLst yInt) (sOne (yLst yInt)))))).rep K H F0 v0 d0 ∧ (yTup (sCons yInt (sCons yInt (sCons yInt (sCons yInt (sOne yInt)))))).rep K H [] v1 d1 ∧ (yLst yInt).rep K H F2 v2 d2 ∧ Mi.m_l_fuels d0 d1 d2 = some r ∧ ∀ v H' F, Chg ([]) H H' → (yOpt (yLst yInt)).rep K H' F v r → (∀ a ∈ F, H a = none) → Q v H'
theorem ok_l_fuels (B : Bi mg) (CN : Cs K mg) (D : Dfn K mg "_law_fuels" s_l_fuels) (C_l_lanes : Cal P w K mg "_law_lanes" ["_law_sea_here", "_law_craft_here", "_law_when", "_law_start"] 2 (sp_l_lanes K)) (C_l_filled : Cal P w K mg "_law_filled" ["_law_sea_here", "_law_craft_here", "_law_place", "_law_amount"] 1 (sp_l_filled K)) : Cal P w K mg "_law_fuels" ["_law_sea_here", "_law_craft_here", "_law_path"] 3 (sp_l_fuels K) := by
  obtain ⟨f, fd, F, g⟩ := D.ex
  refine ⟨f, fd, g, F.kp, bindsF F (fun _ _ _ _ _ _ us hl => match us, hl with | [_, _, _], _ => rfl), fun base => F.ok sc_l_fuels (fun vs H Q E h => ?_) (fun cdv A outer s H0 vs Q E hr h => ?_)⟩
  · obtain ⟨v0, F0, d0, v1, d1, v2, F2, d2, r, rfl, r0, r1, r2, hm, hQ⟩ := h; rfl
  ·
    obtain ⟨v0, F0, d0, v1, d1, v2, F2, d2, r, rfl, r0, r1, r2, hm, hQ⟩ := h
    refine ⟨_, pss_cons (ps_set (i := 3) sc_l_fuels.nd rfl (.inl rfl) (pe_lst (pa_cons (pe_cc C_l_filled hr (pa_cons (pv 0) (pa_cons (pv 1) (pa_cons (pe_ix (ix_l (K := K)) (pv 2) pe_int (fun _ _ => rfl)) (pa_cons (pe_ix (ix_t (K := K)) (pv 1) pe_int (fun _ _ => rfl)) pa_nil))))) pa_nil)))
      (pss_cons (ps_for PassesOwn.never rfl (pi_range1 (by rfl) B.range (pa_cons (pe_op op_sub (pe_callB (cl_len (K := K)) (by rfl) B.len PySem.boot_len (pa_cons (pv 2) pa_nil)) pe_int) pa_nil)) (pg_name (i := 4) sc_l_fuels.nd rfl (.inl rfl)) (pss_cons (ps_set (i := 5) sc_l_fuels.nd rfl (.inl rfl) (pe_ix (ix_l (K := K)) (pe_cc C_l_lanes hr (pa_cons (pv 0) (pa_cons (pv 1) (pa_cons (pv 4) (pa_cons (pe_ix (ix_l (K := K)) (pv 2) (pv 4) (fun _ _ => rfl)) pa_nil))))) (pe_ix (ix_l (K := K)) (pv 2) (pe_op op_add (pv 4) pe_int) (fun _ _ => rfl)) (fun _ _ => rfl)))
      (pss_cons (ps_if (PW.pt (pw_or (pt_cmpR op_isN1 (pv 5) pe_non (nomark _)) (pw_or1 (pt_cmpR op_gt (pv 5) (pe_ix (ix_l (K := K)) (pv 3) (pe_un un_neg pe_int) (fun _ _ => rfl)) (nomark _))))) (pss_cons (ps_ret pe_non) pss_nil) (pss_nil))
      (pss_cons (ps_expr (pe_bm PySem.F.plainAttrs_list PySem.F.slot_list_append PySem.F.type_list_append mt_append (pv 3) (pa_cons (pe_cc C_l_filled hr (pa_cons (pv 0) (pa_cons (pv 1) (pa_cons (pe_ix (ix_l (K := K)) (pv 2) (pe_op op_add (pv 4) pe_int) (fun _ _ => rfl)) (pa_cons (pe_op op_sub (pe_ix (ix_l (K := K)) (pv 3) (pe_un un_neg pe_int) (fun _ _ => rfl)) (pv 5)) pa_nil))))) pa_nil)))
      (pss_nil)))))
      (pss_cons (ps_ret (pv 3)) pss_nil)), ?_⟩
    have c0 : Chg ([] : List Addr) H0 H0 := Chg.refl H0
    unfold Mi.m_l_fuels at hm
    refine q_asg ?_
    refine w_lst ?_
    refine w_cons ?_
    refine w_call ?_
    obtain ⟨x4, hx4, hm⟩ := Mi.bnd hm
    obtain ⟨u5, F6, r7, su8, kx9, ku10⟩ := itm_tup (n := 4) (atS (atS (atS (atS at1)))) r1
    obtain ⟨rfl, rfl⟩ := r7
    refine w_args (va_cons (val_var rfl) (va_cons (val_var rfl) (va_cons (itm_LI r2 hx4 (val_var rfl) val_c) (va_cons (ku10 (val_var rfl) val_c) va_nil)))) ?_
    obtain ⟨q11, hq11, hm⟩ := Mi.bnd hm
    refine ⟨v0, F0, d0, v1, d1, x4, d1.2.2.2.2, q11, rfl, r0, r1, hq11, fun H13 c12  => ?_⟩
    have r0 := Ty.ex r0 c12
    have r1 := Ty.fz r1 c12
    have r2 := Ty.ex r2 c12
    have c0 := c0.trans c12.none
    refine w_nil ?_
    refine e_lst (K := K) (τ := yInt) (by exact Nat.le_of_ble_eq_true rfl) (.cons yInt_i .nil) fun p14 H18 np17 c15 r16 => ?_
    have d19 : Dj F0 [p14] := Ty.nin r0 np17
    have d20 : Dj F2 [p14] := Ty.nin r2 np17
    have n21 : ∀ a ∈ [p14], H0 a = none := one_fresh (c0.dom p14 np17)
    have r0 := Ty.ex r0 c15
    have r1 := Ty.fz r1 c15
    have r2 := Ty.ex r2 c15
    have c0 := c0.trans c15.none
    refine g_name (σ' := [some v0, some v1, some v2, some (.ref p14), none, none]) rfl ?_
    refine q_for ?_
    refine w_iRng1 ?_
    refine w_args (va_cons (val_sub (val_lenL r2 (val_var rfl)) val_c) va_nil) ?_
    obtain ⟨g22, hg22, hm⟩ := Mi.bnd hm
    obtain ⟨e23, he23, hm⟩ := Mi.bnd hm
    refine l_rng1 hg22 (fun i σ' H' => ∃ (s24 : (List Int)) (y25 : Option V) (y26 : Option V), σ' = [some v0, some v1, some v2, some (.ref p14), y25, y26] ∧ Chg ([] : List Addr) H0 H' ∧ (yTup (sCons (yLst yInt) (sCons (yLst (yTup (sCons yInt (sOne yInt)))) (sCons (yLst yInt) (sOne (yLst yInt)))))).rep K H' F0 v0 d0 ∧ (yTup (sCons yInt (sCons yInt (sCons yInt (sCons yInt (sOne yInt)))))).rep K H' [] v1 d1 ∧ (yLst yInt).rep K H' F2 v2 d2 ∧ (yLst yInt).rep K H' [p14] (.ref p14) s24 ∧ Mi.forR (Mi.m_l_fuels_b1 d0 d1 d2) s24 (List.drop i g22) = some e23) ⟨[q11], none, none, rfl, c0, r0, r1, r2, r16, he23⟩ (fun i29 x28 σ' H' hx27 hp => ?_) (fun σ' H' hp => ?_)
    ·
      obtain ⟨s24, y25, y26, rfl, c0, r0, r1, r2, r16, hle23⟩ := hp
      obtain ⟨o30, hbe23, hore23⟩ := Mi.forR_go hle23 hx27
      unfold Mi.m_l_fuels_b1 at hbe23
      refine g_name (σ' := [some v0, some v1, some v2, some (.ref p14), some (.int x28), y26]) rfl ?_
      refine q_asg ?_
      refine w_op ?_
      refine w_call ?_
      obtain ⟨x31, hx31, hbe23⟩ := Mi.bnd hbe23
      refine w_args (va_cons (val_var rfl) (va_cons (val_var rfl) (va_cons (val_var rfl) (va_cons (itm_LI r2 hx31 (val_var rfl) (val_var rfl)) va_nil)))) ?_
      obtain ⟨q32, hq32, hbe23⟩ := Mi.bnd hbe23
      refine ⟨v0, F0, d0, v1, d1, x28, x31, q32, rfl, r0, r1, hq32, fun v35 H34 F37 c33 r36 fr38  => ?_⟩
      have d39 : Dj F0 F37 := Ty.fresh r0 fr38
      have d40 : Dj F2 F37 := Ty.fresh r2 fr38
      have d41 : Dj [p14] F37 := Ty.fresh r16 fr38
      have n42 : ∀ a ∈ F37, H0 a = none := fun a h => c0.dom a (fr38 a h)
      have r0 := Ty.ex r0 c33
      have r1 := Ty.fz r1 c33
      have r2 := Ty.ex r2 c33
      have r16 := Ty.ex r16 c33
      have c0 := c0.trans c33.none
      obtain ⟨x43, hx43, hbe23⟩ := Mi.bnd hbe23
      refine c_val (itm_LI r2 hx43 (val_var rfl) (val_add (val_var rfl) val_c)) ?_
      obtain ⟨x44, hx44, hbe23⟩ := Mi.bnd hbe23
      refine w_ixL r36 hx44 fun u45 r46 => ?_
      refine g_name (σ' := [some v0, some v1, some v2, some (.ref p14), some (.int x28), some u45]) rfl ?_
      obtain ⟨b50, hb50, hbe23⟩ := Mi.bnd hbe23
      refine q_if (ans_orO (ans_t (val_isN r46 (val_var rfl))) hb50 (fun hs47 => by (obtain ⟨x48, hx48, hs47⟩ := Mi.bnd hs47; obtain ⟨x49, hx49, hs47⟩ := Mi.bnd hs47; obtain ⟨_, rfl⟩ := opt_int r46 hx49; cases hs47; exact (ans_t (val_gt (val_var rfl) (itm_LI r16 hx48 (val_var rfl) (val_neg val_c))))))) (fun hb => ?_) (fun hb => ?_)
      ·
        replace hbe23 := Mi.ifT hb hbe23
        refine q_ret ?_
        refine c_val val_c ?_
        obtain rfl := Option.some.inj hbe23
        obtain rfl := Mi.or_inl hore23
        obtain rfl := Option.some.inj (Mi.orR_inl hm)
        exact hQ _ _ _ c0 opt_n nil_fresh 
      replace hbe23 := Mi.ifF hb hbe23
      refine w_fall ?_
      refine q_drop (w_bm (c_val (val_var rfl) ⟨tyv_lst r16, ?_⟩))
      refine w_cons ?_
      refine w_call ?_
      obtain ⟨x51, hx51, hbe23⟩ := Mi.bnd hbe23
      obtain ⟨x52, hx52, hbe23⟩ := Mi.bnd hbe23
      obtain ⟨x53, hx53, hbe23⟩ := Mi.bnd hbe23
      obtain ⟨_, rfl⟩ := opt_int r46 hx53
      refine w_args (va_cons (val_var rfl) (va_cons (val_var rfl) (va_cons (itm_LI r2 hx51 (val_var rfl) (val_add (val_var rfl) val_c)) (va_cons (val_sub (itm_LI r16 hx52 (val_var rfl) (val_neg val_c)) (val_var rfl)) va_nil)))) ?_
      obtain ⟨q54, hq54, hbe23⟩ := Mi.bnd hbe23
      refine ⟨v0, F0, d0, v1, d1, x51, (x52 - x53), q54, rfl, r0, r1, hq54, fun H56 c55  => ?_⟩
      have r0 := Ty.ex r0 c55
      have r1 := Ty.fz r1 c55
      have r2 := Ty.ex r2 c55
      have r16 := Ty.ex r16 c55
      have c0 := c0.trans c55.none
      refine w_nil ?_
      obtain ⟨x57, hx57, hbe23⟩ := Mi.bnd hbe23
      refine m_app r16 yInt_i hx57 fun H59 c58 r16 => ?_
      have r0 := Ty.chg r0 c58 d19
      have r1 := Ty.fz r1 c58
      have r2 := Ty.chg r2 c58 d20
      have c0 := c0.join c58 (fun a h => .inr (n21 a h))
      refine w_nextJ ?_
      obtain rfl := Option.some.inj hbe23
      replace hore23 := Mi.or_inr hore23
      exact ⟨_, (some (.int x28)), (some (.int x53)), rfl, c0, r0, r1, r2, r16, hore23⟩
    obtain ⟨s24, y25, y26, rfl, c0, r0, r1, r2, r16, hle23⟩ := hp
    obtain rfl := Mi.forR_end hle23
    replace hm := Mi.orR_inr hm
    refine q_ret ?_
    refine c_val (val_var rfl) ?_
    obtain rfl := Option.some.inj hm
    exact hQ _ _ _ c0 (opt_i (nn_lst r16) r16) n21 
abbrev s_l_sail : Stmt := topS 45
abbrev N_l_sail : List Str := ["_law_hand_here", "_law_sea_here", "_law_craft_here", "_law_zones", "_law_path", "_law_amount", "_law_when", "_law_told", "_law_goals", "_law_goal"]
theorem sc_l_sail : FnScope ["_law_hand_here", "_law_sea_here", "_law_craft_here", "_law_zones", "_law_path", "_law_amount", "_law_when", "_law_told", "_law_goals", "_law_goal"] ["_law_hand_here", "_law_sea_here", "_law_craft_here", "_law_zones"] (defScope s_l_sail) := ⟨rfl, rfl, rfl, by decide +kernel, rfl, by decide +kernel, by decide +kernel⟩
def sp_l_sail (K : PySem.W.Frag) : Sp := fun vs H Q _ => ∃ (v0 : V) (F0 : List Addr) (d0 : (List Int)) (v1 : V) (F1 : List Addr) (d1 : ((List Int) × (List (Int × Int)) × (List Int) × (List Int))) (v2 : V) (d2 : (Int × Int × Int × Int × Int)) (v3 : V) (F3 : List Addr) (d3 : (List (List Int))) (r : ((List Int) × (List Int))), vs = [v0, v1, v2, v3] ∧ (yLst yInt).rep K H F0 v0 d0 ∧ (yTup (sCons (yLst yInt) (sCons (yLst (yTup (sCons yInt (sOne yInt)))) (sCons (yLst yInt) (sOne (yLst yInt)))))).rep K H F1 v1 d1 ∧ (yTup (sCons yInt (sCons yInt (sCons yInt (sCons yInt (sOne yInt)))))).rep K H [] v2 d2 ∧ (yLsg (yLst yInt)).rep K H F3 v3 d3 ∧ Dj F0 F1 ∧ Dj F0 F3 ∧ Mi.m_l_sail d0 d1 d2 d3 = some r ∧ ∀ v H' F, Chg (F0) H H' → (yLst yInt).rep K H' F v r.1 → (∀ a ∈ F, H a = none) → (yLst yInt).rep K H' F0 v0 r.2 → Q v H'
theorem ok_l_sail (B : Bi mg) (CN : Cs K mg) (D : Dfn K mg "_law_sail" s_l_sail) (C_l_pick : Cal P w K mg "_law_pick" ["_law_hand_here", "_law_size"] 1 (sp_l_pick K)) (C_l_lanes : Cal P w K mg "_law_lanes" ["_law_sea_here", "_law_craft_here", "_law_when", "_law_start"] 2 (sp_l_lanes K)) (C_l_filled : Cal P w K mg "_law_filled" ["_law_sea_here", "_law_craft_here", "_law_place", "_law_amount"] 1 (sp_l_filled K)) : Cal P w K mg "_law_sail" ["_law_hand_here", "_law_sea_here", "_law_craft_here", "_law_zones"] 3 (sp_l_sail K) := by
  obtain ⟨f, fd, F, g⟩ := D.ex
  refine ⟨f, fd, g, F.kp, bindsF F (fun _ _ _ _ _ _ us hl => match us, hl with | [_, _, _, _], _ => rfl), fun base => F.ok sc_l_sail (fun vs H Q E h => ?_) (fun cdv A outer s H0 vs Q E hr h => ?_)⟩
  · obtain ⟨v0, F0, d0, v1, F1, d1, v2, d2, v3, F3, d3, r, rfl, r0, r1, r2, r3, dd0_1, dd0_3, hm, hQ⟩ := h; rfl
  ·
    obtain ⟨v0, F0, d0, v1, F1, d1, v2, d2, v3, F3, d3, r, rfl, r0, r1, r2, r3, dd0_1, dd0_3, hm, hQ⟩ := h
    refine ⟨_, pss_cons (ps_if (pt_cmpR op_eq (pe_callB (cl_len (K := K)) (by rfl) B.len PySem.boot_len (pa_cons (pe_ix (ix_l (K := K)) (pv 3) pe_int (fun _ _ => rfl)) pa_nil)) pe_int (nomark _)) (pss_cons (ps_ret (pe_lst pa_nil)) pss_nil) (pss_nil))
      (pss_cons (ps_set (i := 4) sc_l_sail.nd rfl (.inl rfl) (pe_lst (pa_cons (pe_ix (ix_l (K := K)) (pe_ix (ix_l (K := K)) (pv 3) pe_int (fun _ _ => rfl)) (pe_cc C_l_pick hr (pa_cons (pv 0) (pa_cons (pe_callB (cl_len (K := K)) (by rfl) B.len PySem.boot_len (pa_cons (pe_ix (ix_l (K := K)) (pv 3) pe_int (fun _ _ => rfl)) pa_nil)) pa_nil))) (fun _ _ => rfl)) pa_nil)))
      (pss_cons (ps_set (i := 5) sc_l_sail.nd rfl (.inr rfl) (pe_cc C_l_filled hr (pa_cons (pv 1) (pa_cons (pv 2) (pa_cons (pe_ix (ix_l (K := K)) (pv 4) pe_int (fun _ _ => rfl)) (pa_cons (pe_ix (ix_t (K := K)) (pv 2) pe_int (fun _ _ => rfl)) pa_nil))))))
      (pss_cons (ps_for PassesOwn.never rfl (pi_range1 (by rfl) B.range (pa_cons (pe_op op_sub (pe_callB (cl_len (K := K)) (by rfl) B.len PySem.boot_len (pa_cons (pv 3) pa_nil)) pe_int) pa_nil)) (pg_name (i := 6) sc_l_sail.nd rfl (.inl rfl)) (pss_cons (ps_set (i := 7) sc_l_sail.nd rfl (.inr rfl) (pe_cc C_l_lanes hr (pa_cons (pv 1) (pa_cons (pv 2) (pa_cons (pv 6) (pa_cons (pe_ix (ix_l (K := K)) (pv 4) (pe_un un_neg pe_int) (fun _ _ => rfl)) pa_nil))))))
      (pss_cons (ps_setLc (i := 8) (own := [("_law_goal", 9)]) rfl sc_l_sail.nd rfl rfl (sw_true rfl rfl rfl (by decide +kernel)) (pi_list (pe_ix (ix_l (K := K)) (pv 3) (pe_op op_add (pv 6) pe_int) (fun _ _ => rfl))) (blkOk_by (own := [("_law_goal", 9)]) (N := N_l_sail) (sc := defScope s_l_sail) (by decide +kernel)) (fun _ _ _ _ _ => (pg_name (i := 9) sc_l_sail.nd rfl (.inl rfl))) (fun _ _ _ _ _ => (pts_one (PW.pt (pw_and (pt_cmpR op_notN1 (pe_ix (ix_l (K := K)) (pv 7) (pv 9) (fun _ _ => rfl)) pe_non (nomark _)) (pw_and1 (pt_cmpR op_le (pe_ix (ix_l (K := K)) (pv 7) (pv 9) (fun _ _ => rfl)) (pv 5) (nomark _))))))) (fun _ _ _ _ _ => (pv 9)))
      (pss_cons (ps_if (pt_cmpR op_eq (pe_callB (cl_len (K := K)) (by rfl) B.len PySem.boot_len (pa_cons (pv 8) pa_nil)) pe_int (nomark _)) (pss_cons (ps_ret (pv 4)) pss_nil) (pss_nil))
      (pss_cons (ps_set (i := 9) sc_l_sail.nd rfl (.inl rfl) (pe_ix (ix_l (K := K)) (pv 8) (pe_cc C_l_pick hr (pa_cons (pv 0) (pa_cons (pe_callB (cl_len (K := K)) (by rfl) B.len PySem.boot_len (pa_cons (pv 8) pa_nil)) pa_nil))) (fun _ _ => rfl)))
      (pss_cons (ps_set (i := 5) sc_l_sail.nd rfl (.inr rfl) (pe_cc C_l_filled hr (pa_cons (pv 1) (pa_cons (pv 2) (pa_cons (pv 9) (pa_cons (pe_op op_sub (pv 5) (pe_ix (ix_l (K := K)) (pv 7) (pv 9) (fun _ _ => rfl))) pa_nil))))))
      (pss_cons (ps_expr (pe_bm PySem.F.plainAttrs_list PySem.F.slot_list_append PySem.F.type_list_append mt_append (pv 4) (pa_cons (pv 9) pa_nil)))
      (pss_nil))))))))
      (pss_cons (ps_ret (pv 4)) pss_nil)))), ?_⟩
    have c0 : Chg (F0) H0 H0 := Chg.refl H0
    unfold Mi.m_l_sail at hm
    obtain ⟨x5, hx5, hm⟩ := Mi.bnd hm
    obtain ⟨u6, F7, r8, su9, ap10, kx11, ku12⟩ := itm_G r3 hx5
    have d13 : Dj F7 F0 := Dj.sub (dd0_3.symm) su9
    refine q_if (ans_t (val_eqI (val_lenL r8 (ku12 (val_var rfl) val_c)) val_c)) (fun hb => ?_) (fun hb => ?_)
    ·
      replace hm := Mi.ifT hb hm
      refine q_ret ?_
      refine w_lst ?_
      refine w_args va_nil ?_
      refine e_lst (K := K) (τ := yInt) (by exact Nat.le_of_ble_eq_true rfl) .nil fun p14 H18 np17 c15 r16 => ?_
      have d19 : Dj F0 [p14] := Ty.nin r0 np17
      have d20 : Dj F1 [p14] := Ty.nin r1 np17
      have d21 : Dj F3 [p14] := Ty.nin r3 np17
      have n22 : ∀ a ∈ [p14], H0 a = none := one_fresh (c0.dom p14 np17)
      have r0 := Ty.ex r0 c15
      have r1 := Ty.ex r1 c15
      have r2 := Ty.fz r2 c15
      have r3 := Ty.ex r3 c15
      have c0 := c0.trans c15.none
      obtain rfl := Option.some.inj hm
      exact hQ _ _ _ c0 r16 n22 r0
    replace hm := Mi.ifF hb hm
    refine w_fall ?_
    refine q_asg ?_
    refine w_lst ?_
    refine w_cons ?_
    refine w_op ?_
    obtain ⟨x23, hx23, hm⟩ := Mi.bnd hm
    obtain ⟨u24, F25, r26, su27, ap28, kx29, ku30⟩ := itm_G r3 hx23
    have d31 : Dj F25 F0 := Dj.sub (dd0_3.symm) su27
    refine c_val (ku30 (val_var rfl) val_c) ?_
    refine w_call ?_
    obtain ⟨x32, hx32, hm⟩ := Mi.bnd hm
    obtain ⟨u33, F34, r35, su36, ap37, kx38, ku39⟩ := itm_G r3 hx32
    have d40 : Dj F34 F0 := Dj.sub (dd0_3.symm) su36
    refine w_args (va_cons (val_var rfl) (va_cons (val_lenL r35 (ku39 (val_var rfl) val_c)) va_nil)) ?_
    obtain ⟨q41, hq41, hm⟩ := Mi.bnd hm
    refine ⟨v0, F0, d0, (x32.length : Int), q41, rfl, r0, hq41, fun H43 c42 r0 => ?_⟩
    have r1 := Ty.chg r1 c42 dd0_1.symm
    have r2 := Ty.fz r2 c42
    have r3 := Ty.chg r3 c42 dd0_3.symm
    have r26 := Ty.chg r26 c42 d31
    have c0 := c0.join c42 (fun a h => .inl (h))
    obtain ⟨x44, hx44, hm⟩ := Mi.bnd hm
    refine w_ixL r26 hx44 fun u45 r46 => ?_
    obtain ⟨_, rfl⟩ := r46
    refine w_nil ?_
    refine e_lst (K := K) (τ := yInt) (by exact Nat.le_of_ble_eq_true rfl) (.cons yInt_i .nil) fun p47 H51 np50 c48 r49 => ?_
    have d52 : Dj F0 [p47] := Ty.nin r0 np50
    have d53 : Dj F1 [p47] := Ty.nin r1 np50
    have d54 : Dj F3 [p47] := Ty.nin r3 np50
    have n55 : ∀ a ∈ [p47], H0 a = none := one_fresh (c0.dom p47 np50)
    have r0 := Ty.ex r0 c48
    have r1 := Ty.ex r1 c48
    have r2 := Ty.fz r2 c48
    have r3 := Ty.ex r3 c48
    have c0 := c0.trans c48.none
    refine g_name (σ' := [some v0, some v1, some v2, some v3, some (.ref p47), none, none, none, none, none]) rfl ?_
    refine q_asg ?_
    refine w_call ?_
    obtain ⟨x56, hx56, hm⟩ := Mi.bnd hm
    obtain ⟨u57, F58, r59, su60, kx61, ku62⟩ := itm_tup (n := 4) (atS (atS (atS (atS at1)))) r2
    obtain ⟨rfl, rfl⟩ := r59
    refine w_args (va_cons (val_var rfl) (va_cons (val_var rfl) (va_cons (itm_LI r49 hx56 (val_var rfl) val_c) (va_cons (ku62 (val_var rfl) val_c) va_nil)))) ?_
    obtain ⟨q63, hq63, hm⟩ := Mi.bnd hm
    refine ⟨v1, F1, d1, v2, d2, x56, d2.2.2.2.2, q63, rfl, r1, r2, hq63, fun H65 c64  => ?_⟩
    have r0 := Ty.ex r0 c64
    have r1 := Ty.ex r1 c64
    have r2 := Ty.fz r2 c64
    have r3 := Ty.ex r3 c64
    have r49 := Ty.ex r49 c64
    have c0 := c0.trans c64.none
    refine g_name (σ' := [some v0, some v1, some v2, some v3, some (.ref p47), some (.int q63), none, none, none, none]) rfl ?_
    refine q_for ?_
    refine w_iRng1 ?_
    refine w_args (va_cons (val_sub (val_lenG r3 (val_var rfl)) val_c) va_nil) ?_
    obtain ⟨g66, hg66, hm⟩ := Mi.bnd hm
    obtain ⟨e67, he67, hm⟩ := Mi.bnd hm
    refine l_rng1 hg66 (fun i σ' H' => ∃ (s68 : ((List Int) × (List Int) × Int)) (y69 : Option V) (y70 : Option V) (y71 : Option V) (y72 : Option V), σ' = [some v0, some v1, some v2, some v3, some (.ref p47), some (.int s68.2.2), y69, y70, y71, y72] ∧ Chg (F0) H0 H' ∧ (yLst yInt).rep K H' F0 v0 s68.1 ∧ (yTup (sCons (yLst yInt) (sCons (yLst (yTup (sCons yInt (sOne yInt)))) (sCons (yLst yInt) (sOne (yLst yInt)))))).rep K H' F1 v1 d1 ∧ (yTup (sCons yInt (sCons yInt (sCons yInt (sCons yInt (sOne yInt)))))).rep K H' [] v2 d2 ∧ (yLsg (yLst yInt)).rep K H' F3 v3 d3 ∧ (yLst yInt).rep K H' [p47] (.ref p47) s68.2.1 ∧ Mi.forR (Mi.m_l_sail_b1 d1 d2 d3) s68 (List.drop i g66) = some e67) ⟨(q41.2, [x44], q63), none, none, none, none, rfl, c0, r0, r1, r2, r3, r49, he67⟩ (fun i75 x74 σ' H' hx73 hp => ?_) (fun σ' H' hp => ?_)
    ·
      obtain ⟨s68, y69, y70, y71, y72, rfl, c0, r0, r1, r2, r3, r49, hle67⟩ := hp
      obtain ⟨o76, hbe67, hore67⟩ := Mi.forR_go hle67 hx73
      unfold Mi.m_l_sail_b1 at hbe67
      refine g_name (σ' := [some v0, some v1, some v2, some v3, some (.ref p47), some (.int s68.2.2), some (.int x74), y70, y71, y72]) rfl ?_
      refine q_asg ?_
      refine w_call ?_
      obtain ⟨x77, hx77, hbe67⟩ := Mi.bnd hbe67
      refine w_args (va_cons (val_var rfl) (va_cons (val_var rfl) (va_cons (val_var rfl) (va_cons (itm_LI r49 hx77 (val_var rfl) (val_neg val_c)) va_nil)))) ?_
      obtain ⟨q78, hq78, hbe67⟩ := Mi.bnd hbe67
      refine ⟨v1, F1, d1, v2, d2, x74, x77, q78, rfl, r1, r2, hq78, fun v81 H80 F83 c79 r82 fr84  => ?_⟩
      have d85 : Dj F0 F83 := Ty.fresh r0 fr84
      have d86 : Dj F1 F83 := Ty.fresh r1 fr84
      have d87 : Dj F3 F83 := Ty.fresh r3 fr84
      have d88 : Dj [p47] F83 := Ty.fresh r49 fr84
      have n89 : ∀ a ∈ F83, H0 a = none := fun a h => c0.dom a (fr84 a h)
      have r0 := Ty.ex r0 c79
      have r1 := Ty.ex r1 c79
      have r2 := Ty.fz r2 c79
      have r3 := Ty.ex r3 c79
      have r49 := Ty.ex r49 c79
      have c0 := c0.trans c79.none
      refine g_name (σ' := [some v0, some v1, some v2, some v3, some (.ref p47), some (.int s68.2.2), some (.int x74), some v81, y71, y72]) rfl ?_
      refine q_asg ?_
      refine w_lc ?_
      refine w_iList ?_
      obtain ⟨x90, hx90, hbe67⟩ := Mi.bnd hbe67
      obtain ⟨u91, F92, r93, su94, ap95, kx96, ku97⟩ := itm_G r3 hx90
      have d98 : Dj F92 F0 := Dj.sub (dd0_3.symm) su94
      have d99 : Dj F92 [p47] := Dj.sub (d54) su94
      have d100 : Dj F92 F83 := Dj.sub (d87) su94
      refine c_val (ku97 (val_var rfl) (val_add (val_var rfl) val_c)) ?_
      obtain ⟨e101, he101, hbe67⟩ := Mi.bnd hbe67
      refine kc_lst (K := K) (τ := yInt) r93 (fun D103 i H' => ∃ (s102 : (List Int)), Chg (F0) H0 H' ∧ (yLst yInt).rep K H' F0 v0 s68.1 ∧ (yTup (sCons (yLst yInt) (sCons (yLst (yTup (sCons yInt (sOne yInt)))) (sCons (yLst yInt) (sOne (yLst yInt)))))).rep K H' F1 v1 d1 ∧ (yTup (sCons yInt (sCons yInt (sCons yInt (sCons yInt (sOne yInt)))))).rep K H' [] v2 d2 ∧ (yLsg (yLst yInt)).rep K H' F3 v3 d3 ∧ (yLst yInt).rep K H' [p47] (.ref p47) s68.2.1 ∧ (yLst (yOpt yInt)).rep K H' F83 v81 q78 ∧ (yLst yInt).rep K H' F92 u91 x90 ∧ (yLst yInt).rep K H' [D103] (.ref D103) s102 ∧ Dj F0 [D103] ∧ Dj F1 [D103] ∧ Dj F3 [D103] ∧ Dj [p47] [D103] ∧ Dj F83 [D103] ∧ Dj F92 [D103] ∧ (∀ a ∈ [D103], H0 a = none) ∧ Mi.forN (Mi.m_l_sail_b2 s68 q78) s102 (List.drop i x90) = some e101) (fun D103 H114 np113 c112 r104 => ⟨([] : (List Int)), c0.trans c112.none, (Ty.ex r0 c112), (Ty.ex r1 c112), (Ty.fz r2 c112), (Ty.ex r3 c112), (Ty.ex r49 c112), (Ty.ex r82 c112), (Ty.ex r93 c112), r104, Ty.nin r0 np113, Ty.nin r1 np113, Ty.nin r3 np113, Ty.nin r49 np113, Ty.nin r82 np113, Ty.nin r93 np113, one_fresh (c0.dom D103 np113), he101⟩) (fun D103 i H' hp => by obtain ⟨s102, c0, r0, r1, r2, r3, r49, r82, r93, r104, d105, d106, d107, d108, d109, d110, n111, _⟩ := hp; exact r93) (fun D103 i117 x116 u119 H118 hx115 r120 hp => ?_) (fun D103 H' np113 hp => ?_)
      ·
        obtain ⟨s102, c0, r0, r1, r2, r3, r49, r82, r93, r104, d105, d106, d107, d108, d109, d110, n111, hle101⟩ := hp
        obtain ⟨_, hbe101, hle101⟩ := Mi.forN_go hle101 hx115
        unfold Mi.m_l_sail_b2 at hbe101
        obtain ⟨_, rfl⟩ := r120
        refine g_name (σ' := [some v0, some v1, some v2, some v3, some (.ref p47), some (.int s68.2.2), some (.int x74), some v81, y71, some (.int x116)]) rfl ?_
        refine ⟨rfl, ?_⟩
        obtain ⟨x125, hx125, hbe101⟩ := Mi.bnd hbe101
        obtain ⟨u126, r127, ku128⟩ := itm_L r82 hx125
        obtain ⟨b135, hb135, hbe101⟩ := Mi.bnd hbe101
        refine c_ans (ans_andO (ans_t (val_notN r127 (ku128 (val_var rfl) (val_var rfl)))) hb135 (fun hs129 => by (obtain ⟨x130, hx130, hs129⟩ := Mi.bnd hs129; obtain ⟨u131, r132, ku133⟩ := itm_L r82 hx130; obtain ⟨x134, hx134, hs129⟩ := Mi.bnd hs129; obtain ⟨_, rfl⟩ := opt_int r132 hx134; cases hs129; exact (ans_t (val_le (ku133 (val_var rfl) (val_var rfl)) (val_var rfl)))))) ?_
        refine c_if (fun hb => ?_) (fun hb => ?_)
        ·
          replace hbe101 := Mi.ifT hb hbe101
          refine c_val (val_var rfl) ?_
          obtain ⟨x136, hx136, hbe101⟩ := Mi.bnd hbe101
          refine e_app r104 yInt_i hx136 fun H138 c137 r104 => ?_
          have r0 := Ty.chg r0 c137 d105
          have r1 := Ty.chg r1 c137 d106
          have r2 := Ty.fz r2 c137
          have r3 := Ty.chg r3 c137 d107
          have r49 := Ty.chg r49 c137 d108
          have r82 := Ty.chg r82 c137 d109
          have r93 := Ty.chg r93 c137 d110
          have c0 := c0.join c137 (fun a h => .inr (n111 a h))
          obtain rfl := Option.some.inj hbe101
          exact ⟨x136, c0, r0, r1, r2, r3, r49, r82, r93, r104, d105, d106, d107, d108, d109, d110, n111, hle101⟩
        ·
          replace hbe101 := Mi.ifF hb hbe101
          obtain rfl := Option.some.inj hbe101
          exact ⟨s102, c0, r0, r1, r2, r3, r49, r82, r93, r104, d105, d106, d107, d108, d109, d110, n111, hle101⟩
      obtain ⟨s102, c0, r0, r1, r2, r3, r49, r82, r93, r104, d105, d106, d107, d108, d109, d110, n111, hle101⟩ := hp
      obtain rfl := Mi.forN_end hle101
      refine g_name (σ' := [some v0, some v1, some v2, some v3, some (.ref p47), some (.int s68.2.2), some (.int x74), some v81, some (.ref D103), y72]) rfl ?_
      refine q_if (ans_t (val_eqI (val_lenL r104 (val_var rfl)) val_c)) (fun hb => ?_) (fun hb => ?_)
      ·
        replace hbe67 := Mi.ifT hb hbe67
        refine q_ret ?_
        refine c_val (val_var rfl) ?_
        obtain rfl := Option.some.inj hbe67
        obtain rfl := Mi.or_inl hore67
        obtain rfl := Option.some.inj (Mi.orR_inl hm)
        exact hQ _ _ _ c0 r49 n55 r0
      replace hbe67 := Mi.ifF hb hbe67
      refine w_fall ?_
      refine q_asg ?_
      refine w_op ?_
      refine c_val (val_var rfl) ?_
      refine w_call ?_
      refine w_args (va_cons (val_var rfl) (va_cons (val_lenL r104 (val_var rfl)) va_nil)) ?_
      obtain ⟨q139, hq139, hbe67⟩ := Mi.bnd hbe67
      refine ⟨v0, F0, s68.1, (s102.length : Int), q139, rfl, r0, hq139, fun H141 c140 r0 => ?_⟩
      have r1 := Ty.chg r1 c140 dd0_1.symm
      have r2 := Ty.fz r2 c140
      have r3 := Ty.chg r3 c140 dd0_3.symm
      have r49 := Ty.chg r49 c140 d52.symm
      have r82 := Ty.chg r82 c140 d85.symm
      have r104 := Ty.chg r104 c140 d105.symm
      have c0 := c0.join c140 (fun a h => .inl (h))
      obtain ⟨x142, hx142, hbe67⟩ := Mi.bnd hbe67
      refine w_ixL r104 hx142 fun u143 r144 => ?_
      obtain ⟨_, rfl⟩ := r144
      refine g_name (σ' := [some v0, some v1, some v2, some v3, some (.ref p47), some (.int s68.2.2), some (.int x74), some v81, some (.ref D103), some (.int x142)]) rfl ?_
      refine q_asg ?_
      refine w_call ?_
      obtain ⟨x145, hx145, hbe67⟩ := Mi.bnd hbe67
      obtain ⟨u146, r147, ku148⟩ := itm_L r82 hx145
      obtain ⟨x149, hx149, hbe67⟩ := Mi.bnd hbe67
      obtain ⟨_, rfl⟩ := opt_int r147 hx149
      refine w_args (va_cons (val_var rfl) (va_cons (val_var rfl) (va_cons (val_var rfl) (va_cons (val_sub (val_var rfl) (ku148 (val_var rfl) (val_var rfl))) va_nil)))) ?_
      obtain ⟨q150, hq150, hbe67⟩ := Mi.bnd hbe67
      refine ⟨v1, F1, d1, v2, d2, x142, (s68.2.2 - x149), q150, rfl, r1, r2, hq150, fun H152 c151  => ?_⟩
      have r0 := Ty.ex r0 c151
      have r1 := Ty.ex r1 c151
      have r2 := Ty.fz r2 c151
      have r3 := Ty.ex r3 c151
      have r49 := Ty.ex r49 c151
      have r82 := Ty.ex r82 c151
      have r104 := Ty.ex r104 c151
      have c0 := c0.trans c151.none
      refine g_name (σ' := [some v0, some v1, some v2, some v3, some (.ref p47), some (.int q150), some (.int x74), some v81, some (.ref D103), some (.int x142)]) rfl ?_
      refine q_drop (w_bm (c_val (val_var rfl) ⟨tyv_lst r49, ?_⟩))
      refine w_args (va_cons (val_var rfl) va_nil) ?_
      obtain ⟨x153, hx153, hbe67⟩ := Mi.bnd hbe67
      refine m_app r49 yInt_i hx153 fun H155 c154 r49 => ?_
      have r0 := Ty.chg r0 c154 d52
      have r1 := Ty.chg r1 c154 d53
      have r2 := Ty.fz r2 c154
      have r3 := Ty.chg r3 c154 d54
      have r82 := Ty.chg r82 c154 d88.symm
      have r104 := Ty.chg r104 c154 d108.symm
      have c0 := c0.join c154 (fun a h => .inr (n55 a h))
      refine w_nextJ ?_
      obtain rfl := Option.some.inj hbe67
      replace hore67 := Mi.or_inr hore67
      exact ⟨_, (some (.int x74)), (some v81), (some (.ref D103)), (some (.int x142)), rfl, c0, r0, r1, r2, r3, r49, hore67⟩
    obtain ⟨s68, y69, y70, y71, y72, rfl, c0, r0, r1, r2, r3, r49, hle67⟩ := hp
    obtain rfl := Mi.forR_end hle67
    replace hm := Mi.orR_inr hm
    refine q_ret ?_
    refine c_val (val_var rfl) ?_
    obtain rfl := Option.some.inj hm
    exact hQ _ _ _ c0 r49 n55 r0
abbrev s_l_open : Stmt := topS 46
abbrev N_l_open : List Str := ["_law_sea_here", "_law_count", "_law_when"]
theorem sc_l_open : FnScope ["_law_sea_here", "_law_count", "_law_when"] ["_law_sea_here", "_law_count"] (defScope s_l_open) := ⟨rfl, rfl, rfl, by decide +kernel, rfl, by decide +kernel, by decide +kernel⟩
def sp_l_open (K : PySem.W.Frag) : Sp := fun vs H Q _ => ∃ (v0 : V) (F0 : List Addr) (d0 : ((List Int) × (List (Int × Int)) × (List Int) × (List Int))) (d1 : Int) (r : (List (List Int))), vs = [v0, (.int d1)] ∧ (yTup (sCons (yLst yInt) (sCons (yLst (yTup (sCons yInt (sOne yInt)))) (sCons (yLst yInt) (sOne (yLst yInt)))))).rep K H F0 v0 d0 ∧ Mi.m_l_open d0 d1 = some r ∧ ∀ v H' F, Chg ([]) H H' → (yLsg (yLst yInt)).rep K H' F v r → (∀ a ∈ F, H a = none) → Q v H'
theorem ok_l_open (B : Bi mg) (CN : Cs K mg) (D : Dfn K mg "_law_open" s_l_open)  : Cal P w K mg "_law_open" ["_law_sea_here", "_law_count"] 1 (sp_l_open K) := by
  obtain ⟨f, fd, F, g⟩ := D.ex
  refine ⟨f, fd, g, F.kp, bindsF F (fun _ _ _ _ _ _ us hl => match us, hl with | [_, _], _ => rfl), fun base => F.ok sc_l_open (fun vs H Q E h => ?_) (fun cdv A outer s H0 vs Q E hr h => ?_)⟩
  · obtain ⟨v0, F0, d0, d1, r, rfl, r0, hm, hQ⟩ := h; rfl
  ·
    obtain ⟨v0, F0, d0, d1, r, rfl, r0, hm, hQ⟩ := h
    refine ⟨_, pss_cons (ps_ret (pe_lc (own := [("_law_when", 2)]) rfl sc_l_open.nd (pi_range1 (by rfl) B.range (pa_cons (pv 1) pa_nil)) (blkOk_by (own := [("_law_when", 2)]) (N := N_l_open) (sc := defScope s_l_open) (by decide +kernel)) (fun _ _ _ _ _ => (pg_name (i := 2) sc_l_open.nd rfl (.inl rfl))) (fun _ _ _ _ _ => pts_nil) (fun _ _ _ _ _ => (pe_listRg rfl (by rfl) B.list (prg_1 (by rfl) B.range (pe_callB (cl_len (K := K)) (by rfl) B.len PySem.boot_len (pa_cons (pe_ix (ix_t (K := K)) (pv 0) pe_int (fun _ _ => rfl)) pa_nil))))))) pss_nil, ?_⟩
    have c0 : Chg ([] : List Addr) H0 H0 := Chg.refl H0
    unfold Mi.m_l_open at hm
    refine q_ret ?_
    refine w_lc ?_
    refine w_iRng1 ?_
    refine w_args (va_cons (val_var rfl) va_nil) ?_
    obtain ⟨g3, hg3, hm⟩ := Mi.bnd hm
    obtain ⟨e4, he4, hm⟩ := Mi.bnd hm
    refine kc_rng1 (K := K) (τ := yInt) hg3 (fun D6 i H' => ∃ (s5 : (List (List Int))) (F8 : List Addr), Chg ([] : List Addr) H0 H' ∧ (yTup (sCons (yLst yInt) (sCons (yLst (yTup (sCons yInt (sOne yInt)))) (sCons (yLst yInt) (sOne (yLst yInt)))))).rep K H' F0 v0 d0 ∧ (yLsg (yLst yInt)).rep K H' F8 (.ref D6) s5 ∧ Dj F0 F8 ∧ (∀ a ∈ F8, H0 a = none) ∧ Mi.forN (Mi.m_l_open_b1 d0) s5 (List.drop i g3) = some e4) (fun D6 H13 np12 c11 r7 => ⟨([] : (List (List Int))), [D6], c0.trans c11.none, (Ty.ex r0 c11), lsg_nil r7, Ty.nin r0 np12, one_fresh (c0.dom D6 np12), he4⟩) (fun D6 i16 x15 H17 hx14 hp => ?_) (fun D6 H' np12 hp => ?_)
    ·
      obtain ⟨s5, F8, c0, r0, r7, d9, n10, hle4⟩ := hp
      obtain ⟨_, hbe4, hle4⟩ := Mi.forN_go hle4 hx14
      unfold Mi.m_l_open_b1 at hbe4
      refine g_name (σ' := [some v0, some (.int d1), some (.int x15)]) rfl ?_
      refine ⟨rfl, ?_⟩
      refine w_yes ?_
      refine iteT ?_
      refine w_lrng1 ?_
      obtain ⟨u24, F25, r26, su27, kx28, ku29⟩ := itm_tup (n := 0) at0 r0
      have d30 : Dj F25 F8 := Dj.sub (d9) su27
      refine c_val (val_lenL r26 (ku29 (val_var rfl) val_c)) ?_
      obtain ⟨g31, hg31, hbe4⟩ := Mi.bnd hbe4
      refine x_lrng1 (K := K) hg31 fun p32 H36 np35 c33 r34 => ?_
      have d37 : Dj F0 [p32] := Ty.nin r0 np35
      have d38 : Dj F8 [p32] := Ty.nin r7 np35
      have n39 : ∀ a ∈ [p32], H0 a = none := one_fresh (c0.dom p32 np35)
      have r0 := Ty.ex r0 c33
      have r7 := Ty.ex r7 c33
      have c0 := c0.trans c33.none
      obtain ⟨x40, hx40, hbe4⟩ := Mi.bnd hbe4
      refine e_appG r7 r34 (ap_of r7 (d38)) hx40 fun H44 F45 c43 r7 sa46 sb47 => ?_
      have r0 := Ty.chg r0 c43 d9
      have r34 := Ty.chg r34 c43 d38.symm
      have c0 := c0.join c43 (fun a h => .inr (n10 a h))
      have d48 : Dj F0 F45 := Dj.grow (d9) (d37) sb47
      have n49 : ∀ a ∈ F45, H0 a = none := fresh_grow n10 n39 sb47
      obtain rfl := Option.some.inj hbe4
      exact ⟨x40, F45, c0, r0, r7, (d48), n49, hle4⟩
    obtain ⟨s5, F8, c0, r0, r7, d9, n10, hle4⟩ := hp
    obtain rfl := Mi.forN_end hle4
    obtain rfl := Option.some.inj hm
    exact hQ _ _ _ c0 r7 n10 
abbrev s_l_flows : Stmt := topS 47
abbrev N_l_flows : List Str := ["_law_hand_here", "_law_sea_here", "_law_turn", "_law_flows_here", "_law_kind", "_law_lift", "_law_flow", "_law_k"]
theorem sc_l_flows : FnScope ["_law_hand_here", "_law_sea_here", "_law_turn", "_law_flows_here", "_law_kind", "_law_lift", "_law_flow", "_law_k"] ["_law_hand_here", "_law_sea_here"] (defScope s_l_flows) := ⟨rfl, rfl, rfl, by decide +kernel, rfl, by decide +kernel, by decide +kernel⟩
def sp_l_flows (K : PySem.W.Frag) : Sp := fun vs H Q _ => ∃ (v0 : V) (F0 : List Addr) (d0 : (List Int)) (v1 : V) (F1 : List Addr) (d1 : ((List Int) × (List (Int × Int)) × (List Int) × (List Int))) (r : (((List Int) × (List (Int × Int)) × (List Int) × (List Int)) × (List Int))), vs = [v0, v1] ∧ (yLst yInt).rep K H F0 v0 d0 ∧ (yTup (sCons (yLst yInt) (sCons (yLst (yTup (sCons yInt (sOne yInt)))) (sCons (yLst yInt) (sOne (yLst yInt)))))).rep K H F1 v1 d1 ∧ Dj F0 F1 ∧ Mi.m_l_flows d0 d1 = some r ∧ ∀ v H' F, Chg (F0) H H' → (yTup (sCons (yLst yInt) (sCons (yLst (yTup (sCons yInt (sOne yInt)))) (sCons (yLst yInt) (sOne (yLst yInt)))))).rep K H' F v r.1 → (∀ a ∈ F, H a = none ∨ a ∈ F1) → (yLst yInt).rep K H' F0 v0 r.2 → Q v H'
theorem ok_l_flows (B : Bi mg) (CN : Cs K mg) (D : Dfn K mg "_law_flows" s_l_flows) (C_l_pick : Cal P w K mg "_law_pick" ["_law_hand_here", "_law_size"] 1 (sp_l_pick K)) : Cal P w K mg "_law_flows" ["_law_hand_here", "_law_sea_here"] 2 (sp_l_flows K) := by
  obtain ⟨f, fd, F, g⟩ := D.ex
  refine ⟨f, fd, g, F.kp, bindsF F (fun _ _ _ _ _ _ us hl => match us, hl with | [_, _], _ => rfl), fun base => F.ok sc_l_flows (fun vs H Q E h => ?_) (fun cdv A outer s H0 vs Q E hr h => ?_)⟩
  · obtain ⟨v0, F0, d0, v1, F1, d1, r, rfl, r0, r1, dd0_1, hm, hQ⟩ := h; rfl
  ·
    obtain ⟨v0, F0, d0, v1, F1, d1, r, rfl, r0, r1, dd0_1, hm, hQ⟩ := h
    refine ⟨_, pss_cons (ps_set (i := 2) sc_l_flows.nd rfl (.inl rfl) (pe_cc C_l_pick hr (pa_cons (pv 0) (pa_cons (pe_callB (cl_len (K := K)) (by rfl) B.len PySem.boot_len (pa_cons (pe_ix (ix_t (K := K)) (pv 1) pe_int (fun _ _ => rfl)) pa_nil)) pa_nil))))
      (pss_cons (ps_set (i := 3) sc_l_flows.nd rfl (.inl rfl) (pe_op op_cat (pe_slice (sl_l (K := K)) (pe_ix (ix_t (K := K)) (pv 1) pe_int (fun _ _ => rfl)) (po_some (pv 2)) po_none) (pe_slice (sl_l (K := K)) (pe_ix (ix_t (K := K)) (pv 1) pe_int (fun _ _ => rfl)) po_none (po_some (pv 2)))))
      (pss_cons (ps_set (i := 4) sc_l_flows.nd rfl (.inl rfl) (pe_cc C_l_pick hr (pa_cons (pv 0) (pa_cons pe_int pa_nil))))
      (pss_cons (ps_if (pt_cmpR op_eq (pv 4) pe_int (nomark _)) (pss_cons (ps_set (i := 5) sc_l_flows.nd rfl (.inr rfl) (pe_cc C_l_pick hr (pa_cons (pv 0) (pa_cons (pe_op op_sub pe_int (pe_callB (cl_maxL (K := K) rfl) (by rfl) B.max (by decide +kernel) (pa_cons (pv 3) pa_nil))) pa_nil))))
      (pss_cons (ps_setLc (i := 3) (own := [("_law_flow", 6)]) rfl sc_l_flows.nd rfl rfl (sw_true rfl rfl rfl (by decide +kernel)) (pi_list (pv 3)) (blkOk_by (own := [("_law_flow", 6)]) (N := N_l_flows) (sc := defScope s_l_flows) (by decide +kernel)) (fun _ _ _ _ _ => (pg_name (i := 6) sc_l_flows.nd rfl (.inl rfl))) (fun _ _ _ _ _ => pts_nil) (fun _ _ _ _ _ => (pe_op op_add (pv 6) (pv 5))))
      (pss_nil))) (pss_nil))
      (pss_cons (ps_if (pt_cmpR op_eq (pv 4) pe_int (nomark _)) (pss_cons (ps_setLc (i := 3) (own := [("_law_k", 7)]) rfl sc_l_flows.nd rfl rfl (sw_true rfl rfl rfl (by decide +kernel)) (pi_range1 (by rfl) B.range (pa_cons (pe_op op_add pe_int (pe_cc C_l_pick hr (pa_cons (pv 0) (pa_cons pe_int pa_nil)))) pa_nil)) (blkOk_by (own := [("_law_k", 7)]) (N := N_l_flows) (sc := defScope s_l_flows) (by decide +kernel)) (fun _ _ _ _ _ => (pg_name (i := 7) sc_l_flows.nd rfl (.inl rfl))) (fun _ _ _ _ _ => pts_nil) (fun _ _ _ _ _ => (pe_cc C_l_pick hr (pa_cons (pv 0) (pa_cons pe_int pa_nil)))))
      (pss_nil)) (pss_nil))
      (pss_cons (ps_ret (pe_tup (pa_cons (pe_ix (ix_t (K := K)) (pv 1) pe_int (fun _ _ => rfl)) (pa_cons (pe_ix (ix_t (K := K)) (pv 1) pe_int (fun _ _ => rfl)) (pa_cons (pv 3) (pa_cons (pe_ix (ix_t (K := K)) (pv 1) pe_int (fun _ _ => rfl)) pa_nil)))))) pss_nil))))), ?_⟩
    have c0 : Chg (F0) H0 H0 := Chg.refl H0
    unfold Mi.m_l_flows at hm
    refine q_asg ?_
    refine w_call ?_
    obtain ⟨u3, F4, r5, su6, kx7, ku8⟩ := itm_tup (n := 2) (atS (atS at0)) r1
    have d9 : Dj F4 F0 := Dj.sub (dd0_1.symm) su6
    refine w_args (va_cons (val_var rfl) (va_cons (val_lenL r5 (ku8 (val_var rfl) val_c)) va_nil)) ?_
    obtain ⟨q10, hq10, hm⟩ := Mi.bnd hm
    refine ⟨v0, F0, d0, (d1.2.2.1.length : Int), q10, rfl, r0, hq10, fun H12 c11 r0 => ?_⟩
    have r1 := Ty.chg r1 c11 dd0_1.symm
    have c0 := c0.join c11 (fun a h => .inl (h))
    refine g_name (σ' := [some v0, some v1, some (.int q10.1), none, none, none, none, none]) rfl ?_
    refine q_asg ?_
    refine w_op ?_
    refine w_sl ?_
    obtain ⟨u13, F14, r15, su16, kx17, ku18⟩ := itm_tup (n := 2) (atS (atS at0)) r1
    have d19 : Dj F14 F0 := Dj.sub (dd0_1.symm) su16
    refine c_val (ku18 (val_var rfl) val_c) ?_
    refine w_pos ?_
    refine c_val (val_var rfl) ?_
    refine ⟨_, rfl, ?_⟩
    refine w_pon ?_
    refine w_cutL r15 fun p20 H24 np23 c21 r22 => ?_
    have d25 : Dj F0 [p20] := Ty.nin r0 np23
    have d26 : Dj F1 [p20] := Ty.nin r1 np23
    have d27 : Dj F14 [p20] := Ty.nin r15 np23
    have n28 : ∀ a ∈ [p20], H0 a = none := one_fresh (c0.dom p20 np23)
    have r0 := Ty.ex r0 c21
    have r1 := Ty.ex r1 c21
    have r15 := Ty.ex r15 c21
    have c0 := c0.trans c21.none
    refine w_sl ?_
    obtain ⟨u29, F30, r31, su32, kx33, ku34⟩ := itm_tup (n := 2) (atS (atS at0)) r1
    have d35 : Dj F30 F0 := Dj.sub (dd0_1.symm) su32
    have d36 : Dj F30 [p20] := Dj.sub (d26) su32
    refine c_val (ku34 (val_var rfl) val_c) ?_
    refine w_pon ?_
    refine w_pos ?_
    refine c_val (val_var rfl) ?_
    refine ⟨_, rfl, ?_⟩
    refine w_cutL r31 fun p37 H41 np40 c38 r39 => ?_
    have d42 : Dj F0 [p37] := Ty.nin r0 np40
    have d43 : Dj F1 [p37] := Ty.nin r1 np40
    have d44 : Dj [p20] [p37] := Ty.nin r22 np40
    have d45 : Dj F30 [p37] := Ty.nin r31 np40
    have n46 : ∀ a ∈ [p37], H0 a = none := one_fresh (c0.dom p37 np40)
    have r0 := Ty.ex r0 c38
    have r1 := Ty.ex r1 c38
    have r22 := Ty.ex r22 c38
    have r31 := Ty.ex r31 c38
    have c0 := c0.trans c38.none
    obtain ⟨x47, hx47, hm⟩ := Mi.bnd hm
    refine w_cat r22 r39 hx47 fun p48 H52 np51 c49 r50 => ?_
    have d53 : Dj F0 [p48] := Ty.nin r0 np51
    have d54 : Dj F1 [p48] := Ty.nin r1 np51
    have d55 : Dj [p20] [p48] := Ty.nin r22 np51
    have d56 : Dj [p37] [p48] := Ty.nin r39 np51
    have n57 : ∀ a ∈ [p48], H0 a = none := one_fresh (c0.dom p48 np51)
    have r0 := Ty.ex r0 c49
    have r1 := Ty.ex r1 c49
    have r22 := Ty.ex r22 c49
    have r39 := Ty.ex r39 c49
    have c0 := c0.trans c49.none
    refine g_name (σ' := [some v0, some v1, some (.int q10.1), some (.ref p48), none, none, none, none]) rfl ?_
    refine q_asg ?_
    refine w_call ?_
    refine w_args (va_cons (val_var rfl) (va_cons val_c va_nil)) ?_
    obtain ⟨q58, hq58, hm⟩ := Mi.bnd hm
    refine ⟨v0, F0, q10.2, (4 : Int), q58, rfl, r0, hq58, fun H60 c59 r0 => ?_⟩
    have r1 := Ty.chg r1 c59 dd0_1.symm
    have r50 := Ty.chg r50 c59 d53.symm
    have c0 := c0.join c59 (fun a h => .inl (h))
    refine g_name (σ' := [some v0, some v1, some (.int q10.1), some (.ref p48), some (.int q58.1), none, none, none]) rfl ?_
    obtain ⟨s61, hs61, hm⟩ := Mi.bnd hm
    refine s_join (R := fun σ' H' => ∃ (y66 : Option V) (v62 : V) (F64 : List Addr), σ' = [some v0, some v1, some (.int q10.1), some v62, some (.int q58.1), y66, none, none] ∧ Chg (F0) H0 H' ∧ (yLst yInt).rep K H' F0 v0 s61.1 ∧ (yTup (sCons (yLst yInt) (sCons (yLst (yTup (sCons yInt (sOne yInt)))) (sCons (yLst yInt) (sOne (yLst yInt)))))).rep K H' F1 v1 d1 ∧ (yLst yInt).rep K H' F64 v62 s61.2 ∧ (∀ a ∈ F64, H0 a = none) ∧ Dj F64 F0 ∧ Dj F64 F1) (fun nx kx => ?_) (fun σ' H' hj => ?_)
    ·
      refine s_if (ans_t (val_eqI (val_var rfl) val_c)) (fun hb => ?_) (fun hb => ?_)
      ·
        replace hs61 := Mi.ifT hb hs61
        refine q_asg ?_
        refine w_call ?_
        refine w_cons ?_
        refine c_val (val_var rfl) ?_
        refine w_cons ?_
        refine w_op ?_
        refine c_val val_c ?_
        refine w_cb ?_
        refine w_args (va_cons (val_var rfl) va_nil) ?_
        obtain ⟨x69, hx69, hs61⟩ := Mi.bnd hs61
        refine w_maxL r50 hx69 ?_
        refine w_I0 ?_
        refine w_nil ?_
        obtain ⟨q70, hq70, hs61⟩ := Mi.bnd hs61
        refine ⟨v0, F0, q58.2, ((21 : Int) - x69), q70, rfl, r0, hq70, fun H72 c71 r0 => ?_⟩
        have r1 := Ty.chg r1 c71 dd0_1.symm
        have r50 := Ty.chg r50 c71 d53.symm
        have c0 := c0.join c71 (fun a h => .inl (h))
        refine g_name (σ' := [some v0, some v1, some (.int q10.1), some (.ref p48), some (.int q58.1), some (.int q70.1), none, none]) rfl ?_
        refine q_asg ?_
        refine w_lc ?_
        refine w_iList ?_
        refine c_val (val_var rfl) ?_
        obtain ⟨e73, he73, hs61⟩ := Mi.bnd hs61
        refine kc_lst (K := K) (τ := yInt) r50 (fun D75 i H' => ∃ (s74 : (List Int)), Chg (F0) H0 H' ∧ (yLst yInt).rep K H' F0 v0 q70.2 ∧ (yTup (sCons (yLst yInt) (sCons (yLst (yTup (sCons yInt (sOne yInt)))) (sCons (yLst yInt) (sOne (yLst yInt)))))).rep K H' F1 v1 d1 ∧ (yLst yInt).rep K H' [p48] (.ref p48) x47 ∧ (yLst yInt).rep K H' [D75] (.ref D75) s74 ∧ Dj F0 [D75] ∧ Dj F1 [D75] ∧ Dj [p48] [D75] ∧ (∀ a ∈ [D75], H0 a = none) ∧ Mi.forN (Mi.m_l_flows_b1 q70) s74 (List.drop i x47) = some e73) (fun D75 H83 np82 c81 r76 => ⟨([] : (List Int)), c0.trans c81.none, (Ty.ex r0 c81), (Ty.ex r1 c81), (Ty.ex r50 c81), r76, Ty.nin r0 np82, Ty.nin r1 np82, Ty.nin r50 np82, one_fresh (c0.dom D75 np82), he73⟩) (fun D75 i H' hp => by obtain ⟨s74, c0, r0, r1, r50, r76, d77, d78, d79, n80, _⟩ := hp; exact r50) (fun D75 i86 x85 u88 H87 hx84 r89 hp => ?_) (fun D75 H' np82 hp => ?_)
        ·
          obtain ⟨s74, c0, r0, r1, r50, r76, d77, d78, d79, n80, hle73⟩ := hp
          obtain ⟨_, hbe73, hle73⟩ := Mi.forN_go hle73 hx84
          unfold Mi.m_l_flows_b1 at hbe73
          obtain ⟨_, rfl⟩ := r89
          refine g_name (σ' := [some v0, some v1, some (.int q10.1), some (.ref p48), some (.int q58.1), some (.int q70.1), some (.int x85), none]) rfl ?_
          refine ⟨rfl, ?_⟩
          refine w_yes ?_
          refine iteT ?_
          refine c_val (val_add (val_var rfl) (val_var rfl)) ?_
          obtain ⟨x94, hx94, hbe73⟩ := Mi.bnd hbe73
          refine e_app r76 yInt_i hx94 fun H96 c95 r76 => ?_
          have r0 := Ty.chg r0 c95 d77
          have r1 := Ty.chg r1 c95 d78
          have r50 := Ty.chg r50 c95 d79
          have c0 := c0.join c95 (fun a h => .inr (n80 a h))
          obtain rfl := Option.some.inj hbe73
          exact ⟨x94, c0, r0, r1, r50, r76, d77, d78, d79, n80, hle73⟩
        obtain ⟨s74, c0, r0, r1, r50, r76, d77, d78, d79, n80, hle73⟩ := hp
        obtain rfl := Mi.forN_end hle73
        refine g_name (σ' := [some v0, some v1, some (.int q10.1), some (.ref D75), some (.int q58.1), some (.int q70.1), none, none]) rfl ?_
        refine w_nextJ ?_
        obtain rfl := Option.some.inj hs61
        exact kx _ _ ⟨(some (.int q70.1)), (.ref D75), [D75], rfl, c0, r0, r1, r76, n80, d77.symm, d78.symm⟩
      ·
        replace hs61 := Mi.ifF hb hs61
        refine w_nextJ ?_
        obtain rfl := Option.some.inj hs61
        exact kx _ _ ⟨none, (.ref p48), [p48], rfl, c0, r0, r1, r50, n57, d53.symm, d54.symm⟩
    obtain ⟨y66, v62, F64, rfl, c0, r0, r1, r63, n65, d67, d68⟩ := hj
    obtain ⟨s97, hs97, hm⟩ := Mi.bnd hm
    refine s_join (R := fun σ' H' => ∃ (v98 : V) (F100 : List Addr), σ' = [some v0, some v1, some (.int q10.1), some v98, some (.int q58.1), y66, none, none] ∧ Chg (F0) H0 H' ∧ (yLst yInt).rep K H' F0 v0 s97.1 ∧ (yTup (sCons (yLst yInt) (sCons (yLst (yTup (sCons yInt (sOne yInt)))) (sCons (yLst yInt) (sOne (yLst yInt)))))).rep K H' F1 v1 d1 ∧ (yLst yInt).rep K H' F100 v98 s97.2 ∧ (∀ a ∈ F100, H0 a = none) ∧ Dj F100 F0 ∧ Dj F100 F1) (fun nx kx => ?_) (fun σ' H' hj => ?_)
    ·
      refine s_if (ans_t (val_eqI (val_var rfl) val_c)) (fun hb => ?_) (fun hb => ?_)
      ·
        replace hs97 := Mi.ifT hb hs97
        refine q_asg ?_
        refine w_lc ?_
        refine w_iRng1 ?_
        refine w_cons ?_
        refine w_op ?_
        refine c_val val_c ?_
        refine w_call ?_
        refine w_args (va_cons (val_var rfl) (va_cons val_c va_nil)) ?_
        obtain ⟨q104, hq104, hs97⟩ := Mi.bnd hs97
        refine ⟨v0, F0, s61.1, (12 : Int), q104, rfl, r0, hq104, fun H106 c105 r0 => ?_⟩
        have r1 := Ty.chg r1 c105 dd0_1.symm
        have r63 := Ty.chg r63 c105 d67
        have c0 := c0.join c105 (fun a h => .inl (h))
        refine w_I0 ?_
        refine w_nil ?_
        obtain ⟨g107, hg107, hs97⟩ := Mi.bnd hs97
        obtain ⟨e108, he108, hs97⟩ := Mi.bnd hs97
        refine kc_rng1 (K := K) (τ := yInt) hg107 (fun D110 i H' => ∃ (s109 : ((List Int) × (List Int))), Chg (F0) H0 H' ∧ (yLst yInt).rep K H' F0 v0 s109.2 ∧ (yTup (sCons (yLst yInt) (sCons (yLst (yTup (sCons yInt (sOne yInt)))) (sCons (yLst yInt) (sOne (yLst yInt)))))).rep K H' F1 v1 d1 ∧ (yLst yInt).rep K H' F64 v62 s61.2 ∧ (yLst yInt).rep K H' [D110] (.ref D110) s109.1 ∧ Dj F0 [D110] ∧ Dj F1 [D110] ∧ Dj F64 [D110] ∧ (∀ a ∈ [D110], H0 a = none) ∧ Mi.forN (Mi.m_l_flows_b2) s109 (List.drop i g107) = some e108) (fun D110 H118 np117 c116 r111 => ⟨(([] : (List Int)), q104.2), c0.trans c116.none, (Ty.ex r0 c116), (Ty.ex r1 c116), (Ty.ex r63 c116), r111, Ty.nin r0 np117, Ty.nin r1 np117, Ty.nin r63 np117, one_fresh (c0.dom D110 np117), he108⟩) (fun D110 i121 x120 H122 hx119 hp => ?_) (fun D110 H' np117 hp => ?_)
        ·
          obtain ⟨s109, c0, r0, r1, r63, r111, d112, d113, d114, n115, hle108⟩ := hp
          obtain ⟨_, hbe108, hle108⟩ := Mi.forN_go hle108 hx119
          unfold Mi.m_l_flows_b2 at hbe108
          refine g_name (σ' := [some v0, some v1, some (.int q10.1), some v62, some (.int q58.1), y66, none, some (.int x120)]) rfl ?_
          refine ⟨rfl, ?_⟩
          refine w_yes ?_
          refine iteT ?_
          refine w_call ?_
          refine w_args (va_cons (val_var rfl) (va_cons val_c va_nil)) ?_
          obtain ⟨q129, hq129, hbe108⟩ := Mi.bnd hbe108
          refine ⟨v0, F0, s109.2, (21 : Int), q129, rfl, r0, hq129, fun H131 c130 r0 => ?_⟩
          have r1 := Ty.chg r1 c130 dd0_1.symm
          have r63 := Ty.chg r63 c130 d67
          have r111 := Ty.chg r111 c130 d112.symm
          have c0 := c0.join c130 (fun a h => .inl (h))
          obtain ⟨x132, hx132, hbe108⟩ := Mi.bnd hbe108
          refine e_app r111 yInt_i hx132 fun H134 c133 r111 => ?_
          have r0 := Ty.chg r0 c133 d112
          have r1 := Ty.chg r1 c133 d113
          have r63 := Ty.chg r63 c133 d114
          have c0 := c0.join c133 (fun a h => .inr (n115 a h))
          obtain rfl := Option.some.inj hbe108
          exact ⟨(x132, q129.2), c0, r0, r1, r63, r111, d112, d113, d114, n115, hle108⟩
        obtain ⟨s109, c0, r0, r1, r63, r111, d112, d113, d114, n115, hle108⟩ := hp
        obtain rfl := Mi.forN_end hle108
        refine g_name (σ' := [some v0, some v1, some (.int q10.1), some (.ref D110), some (.int q58.1), y66, none, none]) rfl ?_
        refine w_nextJ ?_
        obtain rfl := Option.some.inj hs97
        exact kx _ _ ⟨(.ref D110), [D110], rfl, c0, r0, r1, r111, n115, d112.symm, d113.symm⟩
      ·
        replace hs97 := Mi.ifF hb hs97
        refine w_nextJ ?_
        obtain rfl := Option.some.inj hs97
        exact kx _ _ ⟨v62, F64, rfl, c0, r0, r1, r63, n65, d67, d68⟩
    obtain ⟨v98, F100, rfl, c0, r0, r1, r99, n101, d102, d103⟩ := hj
    refine q_ret ?_
    refine w_tup ?_
    obtain ⟨u135, F136, r137, su138, kx139, ku140⟩ := itm_tup (n := 0) at0 r1
    have d141 : Dj F136 F0 := Dj.sub (dd0_1.symm) su138
    have d142 : Dj F136 F100 := Dj.sub (d103.symm) su138
    obtain ⟨u143, F144, r145, su146, kx147, ku148⟩ := itm_tup (n := 1) (atS at0) r1
    have d149 : Dj F144 F0 := Dj.sub (dd0_1.symm) su146
    have d150 : Dj F144 F100 := Dj.sub (d103.symm) su146
    obtain ⟨u151, F152, r153, su154, kx155, ku156⟩ := itm_tup (n := 3) (atS (atS (atS at1))) r1
    have d157 : Dj F152 F0 := Dj.sub (dd0_1.symm) su154
    have d158 : Dj F152 F100 := Dj.sub (d103.symm) su154
    refine w_args (va_cons (ku140 (val_var rfl) val_c) (va_cons (ku148 (val_var rfl) val_c) (va_cons (val_var rfl) (va_cons (ku156 (val_var rfl) val_c) va_nil)))) ?_
    refine e_tup (K := K) (ty := (sCons (yLst yInt) (sCons (yLst (yTup (sCons yInt (sOne yInt)))) (sCons (yLst yInt) (sOne (yLst yInt)))))) (F := (F136 ++ (F144 ++ (F100 ++ F152)))) (d := (d1.1, d1.2.1, s97.2, d1.2.2.2)) (by exact Nat.le_of_ble_eq_true rfl) ⟨_, _, _, _, rfl, rfl, r137, ⟨_, _, _, _, rfl, rfl, r145, ⟨_, _, _, _, rfl, rfl, r99, ⟨_, rfl, r153⟩⟩⟩⟩ fun p159 H163 np162 c160 r161 => ?_
    have r0 := Ty.ex r0 c160
    have r1 := Ty.ex r1 c160
    have r99 := Ty.ex r99 c160
    have r137 := Ty.ex r137 c160
    have r145 := Ty.ex r145 c160
    have r153 := Ty.ex r153 c160
    have c0 := c0.trans c160.none
    have d164 : Dj (F136 ++ (F144 ++ (F100 ++ F152))) F0 := (Dj.app (d141) ((Dj.app (d149) ((Dj.app (d102) (d157))))))
    obtain rfl := Option.some.inj hm
    exact hQ _ _ _ c0 r161 (or_app (fun a h => .inr (su138 a h)) (or_app (fun a h => .inr (su146 a h)) (or_app (fun a h => .inl (n101 a h)) (fun a h => .inr (su154 a h))))) r0
abbrev s_l_ports : Stmt := topS 48
abbrev N_l_ports : List Str := ["_law_hand_here", "_law_sea_here"]
theorem sc_l_ports : FnScope ["_law_hand_here", "_law_sea_here"] ["_law_hand_here", "_law_sea_here"] (defScope s_l_ports) := ⟨rfl, rfl, rfl, by decide +kernel, rfl, by decide +kernel, by decide +kernel⟩
def sp_l_ports (K : PySem.W.Frag) : Sp := fun vs H Q _ => ∃ (v0 : V) (F0 : List Addr) (d0 : (List Int)) (v1 : V) (F1 : List Addr) (d1 : ((List Int) × (List (Int × Int)) × (List Int) × (List Int))) (r : (((List Int) × (List (Int × Int)) × (List Int) × (List Int)) × (List Int))), vs = [v0, v1] ∧ (yLst yInt).rep K H F0 v0 d0 ∧ (yTup (sCons (yLst yInt) (sCons (yLst (yTup (sCons yInt (sOne yInt)))) (sCons (yLst yInt) (sOne (yLst yInt)))))).rep K H F1 v1 d1 ∧ Dj F0 F1 ∧ Mi.m_l_ports d0 d1 = some r ∧ ∀ v H' F, Chg (F0) H H' → (yTup (sCons (yLst yInt) (sCons (yLst (yTup (sCons yInt (sOne yInt)))) (sCons (yLst yInt) (sOne (yLst yInt)))))).rep K H' F v r.1 → (∀ a ∈ F, H a = none ∨ a ∈ F1) → (yLst yInt).rep K H' F0 v0 r.2 → Q v H'
theorem ok_l_ports (B : Bi mg) (CN : Cs K mg) (D : Dfn K mg "_law_ports" s_l_ports) (C_l_pick : Cal P w K mg "_law_pick" ["_law_hand_here", "_law_size"] 1 (sp_l_pick K)) (C_l_some : Cal P w K mg "_law_some" ["_law_hand_here", "_law_size", "_law_share"] 2 (sp_l_some K)) : Cal P w K mg "_law_ports" ["_law_hand_here", "_law_sea_here"] 3 (sp_l_ports K) := by
  obtain ⟨f, fd, F, g⟩ := D.ex
  refine ⟨f, fd, g, F.kp, bindsF F (fun _ _ _ _ _ _ us hl => match us, hl with | [_, _], _ => rfl), fun base => F.ok sc_l_ports (fun vs H Q E h => ?_) (fun cdv A outer s H0 vs Q E hr h => ?_)⟩
  · obtain ⟨v0, F0, d0, v1, F1, d1, r, rfl, r0, r1, dd0_1, hm, hQ⟩ := h; rfl
  ·
    obtain ⟨v0, F0, d0, v1, F1, d1, r, rfl, r0, r1, dd0_1, hm, hQ⟩ := h
    refine ⟨_, pss_cons (ps_if (pt_cmpR op_eq (pe_cc C_l_pick hr (pa_cons (pv 0) (pa_cons pe_int pa_nil))) pe_int (nomark _)) (pss_cons (ps_ret (pv 1)) pss_nil) (pss_nil))
      (pss_cons (ps_ret (pe_tup (pa_cons (pe_ix (ix_t (K := K)) (pv 1) pe_int (fun _ _ => rfl)) (pa_cons (pe_ix (ix_t (K := K)) (pv 1) pe_int (fun _ _ => rfl)) (pa_cons (pe_ix (ix_t (K := K)) (pv 1) pe_int (fun _ _ => rfl)) (pa_cons (pe_cc C_l_some hr (pa_cons (pv 0) (pa_cons (pe_callB (cl_len (K := K)) (by rfl) B.len PySem.boot_len (pa_cons (pe_ix (ix_t (K := K)) (pv 1) pe_int (fun _ _ => rfl)) pa_nil)) (pa_cons pe_int pa_nil)))) pa_nil)))))) pss_nil), ?_⟩
    have c0 : Chg (F0) H0 H0 := Chg.refl H0
    unfold Mi.m_l_ports at hm
    refine q_ifS ?_
    refine w_test ?_
    refine w_op ?_
    refine w_call ?_
    refine w_args (va_cons (val_var rfl) (va_cons val_c va_nil)) ?_
    obtain ⟨q3, hq3, hm⟩ := Mi.bnd hm
    refine ⟨v0, F0, d0, (2 : Int), q3, rfl, r0, hq3, fun H5 c4 r0 => ?_⟩
    have r1 := Ty.chg r1 c4 dd0_1.symm
    have c0 := c0.join c4 (fun a h => .inl (h))
    refine c_val val_c ?_
    refine w_eqI ?_
    refine ⟨_, rfl, ?_⟩
    refine c_if (fun hb => ?_) (fun hb => ?_)
    ·
      replace hm := Mi.ifT hb hm
      refine q_ret ?_
      refine c_val (val_var rfl) ?_
      obtain rfl := Option.some.inj hm
      exact hQ _ _ _ c0 r1 (fun a h => .inr h) r0
    replace hm := Mi.ifF hb hm
    refine w_fall ?_
    refine q_ret ?_
    refine w_tup ?_
    refine w_cons ?_
    obtain ⟨u6, F7, r8, su9, kx10, ku11⟩ := itm_tup (n := 0) at0 r1
    have d12 : Dj F7 F0 := Dj.sub (dd0_1.symm) su9
    refine c_val (ku11 (val_var rfl) val_c) ?_
    refine w_cons ?_
    obtain ⟨u13, F14, r15, su16, kx17, ku18⟩ := itm_tup (n := 1) (atS at0) r1
    have d19 : Dj F14 F0 := Dj.sub (dd0_1.symm) su16
    refine c_val (ku18 (val_var rfl) val_c) ?_
    refine w_cons ?_
    obtain ⟨u20, F21, r22, su23, kx24, ku25⟩ := itm_tup (n := 2) (atS (atS at0)) r1
    have d26 : Dj F21 F0 := Dj.sub (dd0_1.symm) su23
    refine c_val (ku25 (val_var rfl) val_c) ?_
    refine w_cons ?_
    refine w_call ?_
    obtain ⟨u27, F28, r29, su30, kx31, ku32⟩ := itm_tup (n := 0) at0 r1
    have d33 : Dj F28 F0 := Dj.sub (dd0_1.symm) su30
    refine w_args (va_cons (val_var rfl) (va_cons (val_lenL r29 (ku32 (val_var rfl) val_c)) (va_cons val_c va_nil))) ?_
    obtain ⟨q34, hq34, hm⟩ := Mi.bnd hm
    have r0_old := r0
    refine ⟨v0, F0, q3.2, (d1.1.length : Int), (2 : Int), q34, rfl, r0, hq34, fun v37 H36 F39 c35 r38 fr40 r0 => ?_⟩
    have d41 : Dj F0 F39 := Ty.fresh r0_old fr40
    have d42 : Dj F1 F39 := Ty.fresh r1 fr40
    have d43 : Dj F7 F39 := Ty.fresh r8 fr40
    have d44 : Dj F14 F39 := Ty.fresh r15 fr40
    have d45 : Dj F21 F39 := Ty.fresh r22 fr40
    have n46 : ∀ a ∈ F39, H0 a = none := fun a h => c0.dom a (fr40 a h)
    have r1 := Ty.chg r1 c35 dd0_1.symm
    have r8 := Ty.chg r8 c35 d12
    have r15 := Ty.chg r15 c35 d19
    have r22 := Ty.chg r22 c35 d26
    have c0 := c0.join c35 (fun a h => .inl (h))
    refine w_nil ?_
    refine e_tup (K := K) (ty := (sCons (yLst yInt) (sCons (yLst (yTup (sCons yInt (sOne yInt)))) (sCons (yLst yInt) (sOne (yLst yInt)))))) (F := (F7 ++ (F14 ++ (F21 ++ F39)))) (d := (d1.1, d1.2.1, d1.2.2.1, q34.1)) (by exact Nat.le_of_ble_eq_true rfl) ⟨_, _, _, _, rfl, rfl, r8, ⟨_, _, _, _, rfl, rfl, r15, ⟨_, _, _, _, rfl, rfl, r22, ⟨_, rfl, r38⟩⟩⟩⟩ fun p47 H51 np50 c48 r49 => ?_
    have r0 := Ty.ex r0 c48
    have r1 := Ty.ex r1 c48
    have r8 := Ty.ex r8 c48
    have r15 := Ty.ex r15 c48
    have r22 := Ty.ex r22 c48
    have r38 := Ty.ex r38 c48
    have c0 := c0.trans c48.none
    have d52 : Dj (F7 ++ (F14 ++ (F21 ++ F39))) F0 := (Dj.app (d12) ((Dj.app (d19) ((Dj.app (d26) (d41.symm))))))
    obtain rfl := Option.some.inj hm
    exact hQ _ _ _ c0 r49 (or_app (fun a h => .inr (su9 a h)) (or_app (fun a h => .inr (su16 a h)) (or_app (fun a h => .inr (su23 a h)) (fun a h => .inl (n46 a h))))) r0
abbrev s_l_boat : Stmt := topS 49
abbrev N_l_boat : List Str := ["_law_hand_here", "_law_sea_here", "_law_craft_here", "_law_deep", "_law_low", "_law_top", "_law_room"]
theorem sc_l_boat : FnScope ["_law_hand_here", "_law_sea_here", "_law_craft_here", "_law_deep", "_law_low", "_law_top", "_law_room"] ["_law_hand_here", "_law_sea_here"] (defScope s_l_boat) := ⟨rfl, rfl, rfl, by decide +kernel, rfl, by decide +kernel, by decide +kernel⟩
def sp_l_boat (K : PySem.W.Frag) : Sp := fun vs H Q _ => ∃ (v0 : V) (F0 : List Addr) (d0 : (List Int)) (v1 : V) (F1 : List Addr) (d1 : ((List Int) × (List (Int × Int)) × (List Int) × (List Int))) (r : ((Int × Int × Int × Int × Int) × (List Int))), vs = [v0, v1] ∧ (yLst yInt).rep K H F0 v0 d0 ∧ (yTup (sCons (yLst yInt) (sCons (yLst (yTup (sCons yInt (sOne yInt)))) (sCons (yLst yInt) (sOne (yLst yInt)))))).rep K H F1 v1 d1 ∧ Dj F0 F1 ∧ Mi.m_l_boat d0 d1 = some r ∧ ∀ v H', Chg (F0) H H' → (yTup (sCons yInt (sCons yInt (sCons yInt (sCons yInt (sOne yInt)))))).rep K H' [] v r.1 → (yLst yInt).rep K H' F0 v0 r.2 → Q v H'
theorem ok_l_boat (B : Bi mg) (CN : Cs K mg) (D : Dfn K mg "_law_boat" s_l_boat) (C_l_pick : Cal P w K mg "_law_pick" ["_law_hand_here", "_law_size"] 1 (sp_l_pick K)) (C_l_craft : Cal P w K mg "_law_craft" ["_law_hand_here", "_law_sea_here"] 2 (sp_l_craft K)) : Cal P w K mg "_law_boat" ["_law_hand_here", "_law_sea_here"] 3 (sp_l_boat K) := by
  obtain ⟨f, fd, F, g⟩ := D.ex
  refine ⟨f, fd, g, F.kp, bindsF F (fun _ _ _ _ _ _ us hl => match us, hl with | [_, _], _ => rfl), fun base => F.ok sc_l_boat (fun vs H Q E h => ?_) (fun cdv A outer s H0 vs Q E hr h => ?_)⟩
  · obtain ⟨v0, F0, d0, v1, F1, d1, r, rfl, r0, r1, dd0_1, hm, hQ⟩ := h; rfl
  ·
    obtain ⟨v0, F0, d0, v1, F1, d1, r, rfl, r0, r1, dd0_1, hm, hQ⟩ := h
    refine ⟨_, pss_cons (ps_set (i := 2) sc_l_boat.nd rfl (.inl rfl) (pe_cc C_l_craft hr (pa_cons (pv 0) (pa_cons (pv 1) pa_nil))))
      (pss_cons (ps_if (pt_cmpR op_eq (pe_cc C_l_pick hr (pa_cons (pv 0) (pa_cons pe_int pa_nil))) pe_int (nomark _)) (pss_cons (ps_ret (pv 2)) pss_nil) (pss_nil))
      (pss_cons (ps_set (i := 3) sc_l_boat.nd rfl (.inl rfl) (pe_ix (ix_l (K := K)) (pe_lst (pa_cons (pe_ix (ix_t (K := K)) (pv 2) pe_int (fun _ _ => rfl)) (pa_cons (pe_ix (ix_t (K := K)) (pv 2) pe_int (fun _ _ => rfl)) (pa_cons (pe_cc C_l_pick hr (pa_cons (pv 0) (pa_cons pe_int pa_nil))) pa_nil)))) (pe_cc C_l_pick hr (pa_cons (pv 0) (pa_cons pe_int pa_nil))) (fun _ _ => rfl)))
      (pss_cons (ps_set (i := 4) sc_l_boat.nd rfl (.inl rfl) (pe_cc C_l_pick hr (pa_cons (pv 0) (pa_cons pe_int pa_nil))))
      (pss_cons (ps_set (i := 5) sc_l_boat.nd rfl (.inl rfl) (pe_op op_add (pv 4) (pe_cc C_l_pick hr (pa_cons (pv 0) (pa_cons (pe_op op_sub pe_int (pv 4)) pa_nil)))))
      (pss_cons (ps_set (i := 6) sc_l_boat.nd rfl (.inl rfl) (pe_cc C_l_pick hr (pa_cons (pv 0) (pa_cons pe_int pa_nil))))
      (pss_cons (ps_ret (pe_tup (pa_cons (pv 3) (pa_cons (pv 4) (pa_cons (pv 5) (pa_cons (pv 6) (pa_cons (pe_cc C_l_pick hr (pa_cons (pv 0) (pa_cons (pe_op op_add (pv 6) pe_int) pa_nil))) pa_nil))))))) pss_nil)))))), ?_⟩
    have c0 : Chg (F0) H0 H0 := Chg.refl H0
    unfold Mi.m_l_boat at hm
    refine q_asg ?_
    refine w_call ?_
    refine w_args (va_cons (val_var rfl) (va_cons (val_var rfl) va_nil)) ?_
    obtain ⟨q3, hq3, hm⟩ := Mi.bnd hm
    refine ⟨v0, F0, d0, v1, F1, d1, q3, rfl, r0, r1, dd0_1, hq3, fun v6 H5 c4 r7 r0 => ?_⟩
    have r1 := Ty.chg r1 c4 dd0_1.symm
    have c0 := c0.join c4 (fun a h => .inl (h))
    refine g_name (σ' := [some v0, some v1, some v6, none, none, none, none]) rfl ?_
    refine q_ifS ?_
    refine w_test ?_
    refine w_op ?_
    refine w_call ?_
    refine w_args (va_cons (val_var rfl) (va_cons val_c va_nil)) ?_
    obtain ⟨q8, hq8, hm⟩ := Mi.bnd hm
    refine ⟨v0, F0, q3.2, (2 : Int), q8, rfl, r0, hq8, fun H10 c9 r0 => ?_⟩
    have r1 := Ty.chg r1 c9 dd0_1.symm
    have r7 := Ty.fz r7 c9
    have c0 := c0.join c9 (fun a h => .inl (h))
    refine c_val val_c ?_
    refine w_eqI ?_
    refine ⟨_, rfl, ?_⟩
    refine c_if (fun hb => ?_) (fun hb => ?_)
    ·
      replace hm := Mi.ifT hb hm
      refine q_ret ?_
      refine c_val (val_var rfl) ?_
      obtain rfl := Option.some.inj hm
      exact hQ _ _ c0 r7 r0
    replace hm := Mi.ifF hb hm
    refine w_fall ?_
    refine q_asg ?_
    refine w_op ?_
    refine w_lst ?_
    refine w_cons ?_
    obtain ⟨u11, F12, r13, su14, kx15, ku16⟩ := itm_tup (n := 0) at0 r7
    obtain ⟨rfl, rfl⟩ := r13
    refine c_val (ku16 (val_var rfl) val_c) ?_
    refine w_cons ?_
    obtain ⟨u17, F18, r19, su20, kx21, ku22⟩ := itm_tup (n := 0) at0 r7
    obtain ⟨rfl, rfl⟩ := r19
    refine c_val (ku22 (val_var rfl) val_c) ?_
    refine w_cons ?_
    refine w_call ?_
    refine w_args (va_cons (val_var rfl) (va_cons val_c va_nil)) ?_
    obtain ⟨q23, hq23, hm⟩ := Mi.bnd hm
    refine ⟨v0, F0, q8.2, (100 : Int), q23, rfl, r0, hq23, fun H25 c24 r0 => ?_⟩
    have r1 := Ty.chg r1 c24 dd0_1.symm
    have r7 := Ty.fz r7 c24
    have c0 := c0.join c24 (fun a h => .inl (h))
    refine w_nil ?_
    refine e_lst (K := K) (τ := yInt) (by exact Nat.le_of_ble_eq_true rfl) (.cons yInt_i (.cons yInt_i (.cons yInt_i .nil))) fun p26 H30 np29 c27 r28 => ?_
    have d31 : Dj F0 [p26] := Ty.nin r0 np29
    have d32 : Dj F1 [p26] := Ty.nin r1 np29
    have n33 : ∀ a ∈ [p26], H0 a = none := one_fresh (c0.dom p26 np29)
    have r0 := Ty.ex r0 c27
    have r1 := Ty.ex r1 c27
    have r7 := Ty.fz r7 c27
    have c0 := c0.trans c27.none
    refine w_call ?_
    refine w_args (va_cons (val_var rfl) (va_cons val_c va_nil)) ?_
    obtain ⟨q34, hq34, hm⟩ := Mi.bnd hm
    refine ⟨v0, F0, q23.2, (3 : Int), q34, rfl, r0, hq34, fun H36 c35 r0 => ?_⟩
    have r1 := Ty.chg r1 c35 dd0_1.symm
    have r7 := Ty.fz r7 c35
    have r28 := Ty.chg r28 c35 d31.symm
    have c0 := c0.join c35 (fun a h => .inl (h))
    obtain ⟨x37, hx37, hm⟩ := Mi.bnd hm
    refine w_ixL r28 hx37 fun u38 r39 => ?_
    obtain ⟨_, rfl⟩ := r39
    refine g_name (σ' := [some v0, some v1, some v6, some (.int x37), none, none, none]) rfl ?_
    refine q_asg ?_
    refine w_call ?_
    refine w_args (va_cons (val_var rfl) (va_cons val_c va_nil)) ?_
    obtain ⟨q40, hq40, hm⟩ := Mi.bnd hm
    refine ⟨v0, F0, q34.2, (4 : Int), q40, rfl, r0, hq40, fun H42 c41 r0 => ?_⟩
    have r1 := Ty.chg r1 c41 dd0_1.symm
    have r7 := Ty.fz r7 c41
    have c0 := c0.join c41 (fun a h => .inl (h))
    refine g_name (σ' := [some v0, some v1, some v6, some (.int x37), some (.int q40.1), none, none]) rfl ?_
    refine q_asg ?_
    refine w_op ?_
    refine c_val (val_var rfl) ?_
    refine w_call ?_
    refine w_args (va_cons (val_var rfl) (va_cons (val_sub val_c (val_var rfl)) va_nil)) ?_
    obtain ⟨q43, hq43, hm⟩ := Mi.bnd hm
    refine ⟨v0, F0, q40.2, ((4 : Int) - q40.1), q43, rfl, r0, hq43, fun H45 c44 r0 => ?_⟩
    have r1 := Ty.chg r1 c44 dd0_1.symm
    have r7 := Ty.fz r7 c44
    have c0 := c0.join c44 (fun a h => .inl (h))
    refine w_I0 ?_
    obtain ⟨top46, htop46, hm⟩ := Mi.letE hm
    refine g_nameE (congrArg V.int htop46) (σ' := [some v0, some v1, some v6, some (.int x37), some (.int q40.1), some (.int top46), none]) rfl ?_
    refine q_asg ?_
    refine w_call ?_
    refine w_args (va_cons (val_var rfl) (va_cons val_c va_nil)) ?_
    obtain ⟨q47, hq47, hm⟩ := Mi.bnd hm
    refine ⟨v0, F0, q43.2, (9 : Int), q47, rfl, r0, hq47, fun H49 c48 r0 => ?_⟩
    have r1 := Ty.chg r1 c48 dd0_1.symm
    have r7 := Ty.fz r7 c48
    have c0 := c0.join c48 (fun a h => .inl (h))
    refine g_name (σ' := [some v0, some v1, some v6, some (.int x37), some (.int q40.1), some (.int top46), some (.int q47.1)]) rfl ?_
    refine q_ret ?_
    refine w_tup ?_
    refine w_cons ?_
    refine c_val (val_var rfl) ?_
    refine w_cons ?_
    refine c_val (val_var rfl) ?_
    refine w_cons ?_
    refine c_val (val_var rfl) ?_
    refine w_cons ?_
    refine c_val (val_var rfl) ?_
    refine w_cons ?_
    refine w_call ?_
    refine w_args (va_cons (val_var rfl) (va_cons (val_add (val_var rfl) val_c) va_nil)) ?_
    obtain ⟨q50, hq50, hm⟩ := Mi.bnd hm
    refine ⟨v0, F0, q47.2, (q47.1 + (1 : Int)), q50, rfl, r0, hq50, fun H52 c51 r0 => ?_⟩
    have r1 := Ty.chg r1 c51 dd0_1.symm
    have r7 := Ty.fz r7 c51
    have c0 := c0.join c51 (fun a h => .inl (h))
    refine w_nil ?_
    refine e_tup (K := K) (ty := (sCons yInt (sCons yInt (sCons yInt (sCons yInt (sOne yInt)))))) (F := []) (d := (x37, q40.1, top46, q47.1, q50.1)) (by exact Nat.le_of_ble_eq_true rfl) ⟨_, _, _, _, rfl, rfl, yInt_i, ⟨_, _, _, _, rfl, rfl, yInt_i, ⟨_, _, _, _, rfl, rfl, yInt_i, ⟨_, _, _, _, rfl, rfl, yInt_i, ⟨_, rfl, yInt_i⟩⟩⟩⟩⟩ fun p53 H57 np56 c54 r55 => ?_
    have r0 := Ty.ex r0 c54
    have r1 := Ty.ex r1 c54
    have r7 := Ty.fz r7 c54
    have c0 := c0.trans c54.none
    obtain rfl := Option.some.inj hm
    exact hQ _ _ c0 r55 r0
abbrev s_l_amounts : Stmt := topS 50
abbrev N_l_amounts : List Str := ["_law_told", "_law_due", "_law_k"]
theorem sc_l_amounts : FnScope ["_law_told", "_law_due", "_law_k"] ["_law_told", "_law_due"] (defScope s_l_amounts) := ⟨rfl, rfl, rfl, by decide +kernel, rfl, by decide +kernel, by decide +kernel⟩
def sp_l_amounts (K : PySem.W.Frag) : Sp := fun vs H Q _ => ∃ (v0 : V) (F0 : List Addr) (d0 : (Option (List Int))) (v1 : V) (F1 : List Addr) (d1 : (Option (List Int))) (r : Bool), vs = [v0, v1] ∧ (yOpt (yLst yInt)).rep K H F0 v0 d0 ∧ (yOpt (yLst yInt)).rep K H F1 v1 d1 ∧ Mi.m_l_amounts d0 d1 = some r ∧ ∀ H', Chg ([]) H H' → Q (.bl r) H'
theorem ok_l_amounts (B : Bi mg) (CN : Cs K mg) (D : Dfn K mg "_law_amounts" s_l_amounts) (C_l_int : Cal P w K mg "_law_int" ["_law_x"] 1 (sp_l_int K)) : Cal P w K mg "_law_amounts" ["_law_told", "_law_due"] 2 (sp_l_amounts K) := by
  obtain ⟨f, fd, F, g⟩ := D.ex
  refine ⟨f, fd, g, F.kp, bindsF F (fun _ _ _ _ _ _ us hl => match us, hl with | [_, _], _ => rfl), fun base => F.ok sc_l_amounts (fun vs H Q E h => ?_) (fun cdv A outer s H0 vs Q E hr h => ?_)⟩
  · obtain ⟨v0, F0, d0, v1, F1, d1, r, rfl, r0, r1, hm, hQ⟩ := h; rfl
  ·
    obtain ⟨v0, F0, d0, v1, F1, d1, r, rfl, r0, r1, hm, hQ⟩ := h
    refine ⟨_, pss_cons (ps_if (pt_cmpR op_isN1 (pv 1) pe_non (nomark _)) (pss_cons (ps_ret (pe_cmpR op_isN1 (pv 0) pe_non (nomark _))) pss_nil) (pss_nil))
      (pss_cons (ps_if (PW.pt (pw_or (pt_not (pt_val (pe_callB (cl_isi (K := K)) (by rfl) B.isinstance (by decide +kernel) (pa_cons (pv 0) (pa_cons (pe_bltn (v := .ty "list") (by rfl) B.list (by decide +kernel) rfl) pa_nil))))) (pw_or1 (pt_cmpR op_ne (pe_callB (cl_len (K := K)) (by rfl) B.len PySem.boot_len (pa_cons (pv 0) pa_nil)) (pe_callB (cl_len (K := K)) (by rfl) B.len PySem.boot_len (pa_cons (pv 1) pa_nil)) (nomark _))))) (pss_cons (ps_ret pe_bl) pss_nil) (pss_nil))
      (pss_cons (ps_for PassesOwn.never rfl (pi_range1 (by rfl) B.range (pa_cons (pe_callB (cl_len (K := K)) (by rfl) B.len PySem.boot_len (pa_cons (pv 1) pa_nil)) pa_nil)) (pg_name (i := 2) sc_l_amounts.nd rfl (.inl rfl)) (pss_cons (ps_if (PW.pt (pw_or (pt_not (pt_val (pe_cc C_l_int hr (pa_cons (pe_ix (ix_l (K := K)) (pv 0) (pv 2) (fun _ _ => rfl)) pa_nil)))) (pw_or1 (pt_cmpR op_ne (pe_ix (ix_l (K := K)) (pv 0) (pv 2) (fun _ _ => rfl)) (pe_ix (ix_l (K := K)) (pv 1) (pv 2) (fun _ _ => rfl)) (nomark _))))) (pss_cons (ps_ret pe_bl) pss_nil) (pss_nil))
      (pss_nil)))
      (pss_cons (ps_ret pe_bl) pss_nil))), ?_⟩
    have c0 : Chg ([] : List Addr) H0 H0 := Chg.refl H0
    unfold Mi.m_l_amounts at hm
    refine q_if (ans_t (val_isN r1 (val_var rfl))) (fun hb => ?_) (fun hb => ?_)
    ·
      replace hm := Mi.ifT hb hm
      refine q_ret ?_
      refine c_val (val_isN r0 (val_var rfl)) ?_
      obtain rfl := Option.some.inj hm
      exact hQ _ c0 
    replace hm := Mi.ifF hb hm
    refine w_fall ?_
    obtain ⟨b8, hb8, hm⟩ := Mi.bnd hm
    refine q_if (ans_orO (ans_N (ans_B (val_isiO (n := "list") (m := "list") (b := true) ty_lst r0 (val_var rfl) (by decide +kernel) (by decide +kernel)))) hb8 (fun hs3 => by (obtain ⟨x4, hx4, hs3⟩ := Mi.bnd hs3; have r5 := opt_some r0 hx4; obtain ⟨x6, hx6, hs3⟩ := Mi.bnd hs3; have r7 := opt_some r1 hx6; cases hs3; exact (ans_t (val_neI (val_lenL r5 (val_var rfl)) (val_lenL r7 (val_var rfl))))))) (fun hb => ?_) (fun hb => ?_)
    ·
      replace hm := Mi.ifT hb hm
      refine q_ret ?_
      refine c_val val_c ?_
      obtain rfl := Option.some.inj hm
      exact hQ _ c0 
    replace hm := Mi.ifF hb hm
    refine w_fall ?_
    refine q_for ?_
    refine w_iRng1 ?_
    obtain ⟨x9, hx9, hm⟩ := Mi.bnd hm
    have r10 := opt_some r1 hx9
    refine w_args (va_cons (val_lenL r10 (val_var rfl)) va_nil) ?_
    obtain ⟨g11, hg11, hm⟩ := Mi.bnd hm
    obtain ⟨e12, he12, hm⟩ := Mi.bnd hm
    refine l_rng1 hg11 (fun i σ' H' => ∃ (s13 : Unit) (y14 : Option V), σ' = [some v0, some v1, y14] ∧ Chg ([] : List Addr) H0 H' ∧ (yOpt (yLst yInt)).rep K H' F0 v0 d0 ∧ (yLst yInt).rep K H' F1 v1 x9 ∧ Mi.forR (Mi.m_l_amounts_b1 d0 x9) s13 (List.drop i g11) = some e12) ⟨(), none, rfl, c0, r0, r10, he12⟩ (fun i17 x16 σ' H' hx15 hp => ?_) (fun σ' H' hp => ?_)
    ·
      obtain ⟨s13, y14, rfl, c0, r0, r10, hle12⟩ := hp
      obtain ⟨o18, hbe12, hore12⟩ := Mi.forR_go hle12 hx15
      unfold Mi.m_l_amounts_b1 at hbe12
      refine g_name (σ' := [some v0, some v1, some (.int x16)]) rfl ?_
      refine q_ifS ?_
      obtain ⟨b19, hb19, hbe12⟩ := Mi.bnd hbe12
      refine j_tt b19 (R := fun H' => Chg ([] : List Addr) H0 H' ∧ (yOpt (yLst yInt)).rep K H' F0 v0 d0 ∧ (yLst yInt).rep K H' F1 v1 x9) (fun Q' kq => ?_) (fun H' hj => ?_)
      ·
        refine w_or ?_
        refine w_not ?_
        refine w_B ?_
        refine w_call ?_
        obtain ⟨x20, hx20, hb19⟩ := Mi.bnd hb19
        have r21 := opt_some r0 hx20
        obtain ⟨x22, hx22, hb19⟩ := Mi.bnd hb19
        refine w_args (va_cons (itm_LI r21 hx22 (val_var rfl) (val_var rfl)) va_nil) ?_
        obtain ⟨q23, hq23, hb19⟩ := Mi.bnd hb19
        refine Or.inl ⟨x22, q23, rfl, hq23, fun H25 c24  => ?_⟩
        have r21 := Ty.ex r21 c24
        have r10 := Ty.ex r10 c24
        have c0 := c0.trans c24.none
        refine ⟨_, rfl, ?_⟩
        refine c_if (fun hb => ?_) (fun hb => ?_)
        ·
          replace hb19 := Mi.ifT hb hb19
          obtain rfl := Option.some.inj hb19
          exact kq _ ⟨c0, (opt_back hx20 (nn_lst r21) r21), r10⟩
        replace hb19 := Mi.ifF hb hb19
        obtain ⟨x26, hx26, hb19⟩ := Mi.bnd hb19
        obtain ⟨x27, hx27, hb19⟩ := Mi.bnd hb19
        refine c_ans (ans_t (val_neI (itm_LI r21 hx26 (val_var rfl) (val_var rfl)) (itm_LI r10 hx27 (val_var rfl) (val_var rfl)))) ?_
        obtain rfl := Option.some.inj hb19
        exact kq _ ⟨c0, (opt_back hx20 (nn_lst r21) r21), r10⟩
      obtain ⟨c0, r0, r10⟩ := hj
      refine c_if (fun hb => ?_) (fun hb => ?_)
      ·
        replace hbe12 := Mi.ifT hb hbe12
        refine q_ret ?_
        refine c_val val_c ?_
        obtain rfl := Option.some.inj hbe12
        obtain rfl := Mi.or_inl hore12
        obtain rfl := Option.some.inj (Mi.orR_inl hm)
        exact hQ _ c0 
      replace hbe12 := Mi.ifF hb hbe12
      refine w_fall ?_
      refine w_nextJ ?_
      obtain rfl := Option.some.inj hbe12
      replace hore12 := Mi.or_inr hore12
      exact ⟨_, (some (.int x16)), rfl, c0, r0, r10, hore12⟩
    obtain ⟨s13, y14, rfl, c0, r0, r10, hle12⟩ := hp
    obtain rfl := Mi.forR_end hle12
    replace hm := Mi.orR_inr hm
    refine q_ret ?_
    refine c_val val_c ?_
    obtain rfl := Option.some.inj hm
    exact hQ _ c0 
abbrev s_l_other_sea : Stmt := topS 51
abbrev N_l_other_sea : List Str := ["_law_sea_here"]
theorem sc_l_other_sea : FnScope ["_law_sea_here"] ["_law_sea_here"] (defScope s_l_other_sea) := ⟨rfl, rfl, rfl, by decide +kernel, rfl, by decide +kernel, by decide +kernel⟩
def sp_l_other_sea (K : PySem.W.Frag) : Sp := fun vs H Q _ => ∃ (v0 : V) (F0 : List Addr) (d0 : ((List Int) × (List (Int × Int)) × (List Int) × (List Int))) (r : ((List Int) × (List (Int × Int)) × (List Int) × (List Int))), vs = [v0] ∧ (yTup (sCons (yLst yInt) (sCons (yLst (yTup (sCons yInt (sOne yInt)))) (sCons (yLst yInt) (sOne (yLst yInt)))))).rep K H F0 v0 d0 ∧ Mi.m_l_other_sea d0 = some r ∧ ∀ v H' F, Chg ([]) H H' → (yTup (sCons (yLst yInt) (sCons (yLst (yTup (sCons yInt (sOne yInt)))) (sCons (yLst yInt) (sOne (yLst yInt)))))).rep K H' F v r → (∀ a ∈ F, H a = none ∨ a ∈ F0) → Q v H'
theorem ok_l_other_sea (B : Bi mg) (CN : Cs K mg) (D : Dfn K mg "_law_other_sea" s_l_other_sea)  : Cal P w K mg "_law_other_sea" ["_law_sea_here"] 1 (sp_l_other_sea K) := by
  obtain ⟨f, fd, F, g⟩ := D.ex
  refine ⟨f, fd, g, F.kp, bindsF F (fun _ _ _ _ _ _ us hl => match us, hl with | [_], _ => rfl), fun base => F.ok sc_l_other_sea (fun vs H Q E h => ?_) (fun cdv A outer s H0 vs Q E hr h => ?_)⟩
  · obtain ⟨v0, F0, d0, r, rfl, r0, hm, hQ⟩ := h; rfl
  ·
    obtain ⟨v0, F0, d0, r, rfl, r0, hm, hQ⟩ := h
    refine ⟨_, pss_cons (ps_ret (pe_tup (pa_cons (pe_slRev (K := K) (pe_ix (ix_t (K := K)) (pv 0) pe_int (fun _ _ => rfl)) (po_some (pe_un un_neg pe_int))) (pa_cons (pe_slEven (K := K) (pe_ix (ix_t (K := K)) (pv 0) pe_int (fun _ _ => rfl)) (po_some pe_int)) (pa_cons (pe_op op_cat (pe_slice (sl_l (K := K)) (pe_ix (ix_t (K := K)) (pv 0) pe_int (fun _ _ => rfl)) (po_some pe_int) po_none) (pe_slice (sl_l (K := K)) (pe_ix (ix_t (K := K)) (pv 0) pe_int (fun _ _ => rfl)) po_none (po_some pe_int))) (pa_cons (pe_ix (ix_t (K := K)) (pv 0) pe_int (fun _ _ => rfl)) pa_nil)))))) pss_nil, ?_⟩
    have c0 : Chg ([] : List Addr) H0 H0 := Chg.refl H0
    unfold Mi.m_l_other_sea at hm
    refine q_ret ?_
    refine w_tup ?_
    refine w_cons ?_
    refine w_slRev ?_
    obtain ⟨u2, F3, r4, su5, kx6, ku7⟩ := itm_tup (n := 0) at0 r0
    refine c_val (ku7 (val_var rfl) val_c) ?_
    refine w_pos ?_
    refine c_val (val_neg val_c) ?_
    refine ⟨_, rfl, ?_⟩
    refine x_slRev r4 fun p8 H12 np11 c9 r10 => ?_
    have d13 : Dj F0 [p8] := Ty.nin r0 np11
    have d14 : Dj F3 [p8] := Ty.nin r4 np11
    have n15 : ∀ a ∈ [p8], H0 a = none := one_fresh (c0.dom p8 np11)
    have r0 := Ty.ex r0 c9
    have r4 := Ty.ex r4 c9
    have c0 := c0.trans c9.none
    refine w_cons ?_
    refine w_slEven ?_
    obtain ⟨u16, F17, r18, su19, kx20, ku21⟩ := itm_tup (n := 1) (atS at0) r0
    have d22 : Dj F17 [p8] := Dj.sub (d13) su19
    refine c_val (ku21 (val_var rfl) val_c) ?_
    refine w_pos ?_
    refine c_val val_c ?_
    refine ⟨_, rfl, ?_⟩
    refine x_slEven r18 fun p23 H27 np26 c24 r25 => ?_
    have d28 : Dj F0 [p23] := Ty.nin r0 np26
    have d29 : Dj [p8] [p23] := Ty.nin r10 np26
    have d30 : Dj F17 [p23] := Ty.nin r18 np26
    have n31 : ∀ a ∈ [p23], H0 a = none := one_fresh (c0.dom p23 np26)
    have r0 := Ty.ex r0 c24
    have r10 := Ty.ex r10 c24
    have r18 := Ty.ex r18 c24
    have c0 := c0.trans c24.none
    refine w_cons ?_
    refine w_op ?_
    refine w_sl ?_
    obtain ⟨u32, F33, r34, su35, kx36, ku37⟩ := itm_tup (n := 2) (atS (atS at0)) r0
    have d38 : Dj F33 [p8] := Dj.sub (d13) su35
    have d39 : Dj F33 [p23] := Dj.sub (d28) su35
    refine c_val (ku37 (val_var rfl) val_c) ?_
    refine w_pos ?_
    refine c_val val_c ?_
    refine ⟨_, rfl, ?_⟩
    refine w_pon ?_
    refine w_cutL r34 fun p40 H44 np43 c41 r42 => ?_
    have d45 : Dj F0 [p40] := Ty.nin r0 np43
    have d46 : Dj [p8] [p40] := Ty.nin r10 np43
    have d47 : Dj [p23] [p40] := Ty.nin r25 np43
    have d48 : Dj F33 [p40] := Ty.nin r34 np43
    have n49 : ∀ a ∈ [p40], H0 a = none := one_fresh (c0.dom p40 np43)
    have r0 := Ty.ex r0 c41
    have r10 := Ty.ex r10 c41
    have r25 := Ty.ex r25 c41
    have r34 := Ty.ex r34 c41
    have c0 := c0.trans c41.none
    refine w_sl ?_
    obtain ⟨u50, F51, r52, su53, kx54, ku55⟩ := itm_tup (n := 2) (atS (atS at0)) r0
    have d56 : Dj F51 [p8] := Dj.sub (d13) su53
    have d57 : Dj F51 [p23] := Dj.sub (d28) su53
    have d58 : Dj F51 [p40] := Dj.sub (d45) su53
    refine c_val (ku55 (val_var rfl) val_c) ?_
    refine w_pon ?_
    refine w_pos ?_
    refine c_val val_c ?_
    refine ⟨_, rfl, ?_⟩
    refine w_cutL r52 fun p59 H63 np62 c60 r61 => ?_
    have d64 : Dj F0 [p59] := Ty.nin r0 np62
    have d65 : Dj [p8] [p59] := Ty.nin r10 np62
    have d66 : Dj [p23] [p59] := Ty.nin r25 np62
    have d67 : Dj [p40] [p59] := Ty.nin r42 np62
    have d68 : Dj F51 [p59] := Ty.nin r52 np62
    have n69 : ∀ a ∈ [p59], H0 a = none := one_fresh (c0.dom p59 np62)
    have r0 := Ty.ex r0 c60
    have r10 := Ty.ex r10 c60
    have r25 := Ty.ex r25 c60
    have r42 := Ty.ex r42 c60
    have r52 := Ty.ex r52 c60
    have c0 := c0.trans c60.none
    obtain ⟨x70, hx70, hm⟩ := Mi.bnd hm
    refine w_cat r42 r61 hx70 fun p71 H75 np74 c72 r73 => ?_
    have d76 : Dj F0 [p71] := Ty.nin r0 np74
    have d77 : Dj [p8] [p71] := Ty.nin r10 np74
    have d78 : Dj [p23] [p71] := Ty.nin r25 np74
    have d79 : Dj [p40] [p71] := Ty.nin r42 np74
    have d80 : Dj [p59] [p71] := Ty.nin r61 np74
    have n81 : ∀ a ∈ [p71], H0 a = none := one_fresh (c0.dom p71 np74)
    have r0 := Ty.ex r0 c72
    have r10 := Ty.ex r10 c72
    have r25 := Ty.ex r25 c72
    have r42 := Ty.ex r42 c72
    have r61 := Ty.ex r61 c72
    have c0 := c0.trans c72.none
    refine w_cons ?_
    obtain ⟨u82, F83, r84, su85, kx86, ku87⟩ := itm_tup (n := 3) (atS (atS (atS at1))) r0
    have d88 : Dj F83 [p8] := Dj.sub (d13) su85
    have d89 : Dj F83 [p23] := Dj.sub (d28) su85
    have d90 : Dj F83 [p71] := Dj.sub (d76) su85
    refine c_val (ku87 (val_var rfl) val_c) ?_
    refine w_nil ?_
    refine e_tup (K := K) (ty := (sCons (yLst yInt) (sCons (yLst (yTup (sCons yInt (sOne yInt)))) (sCons (yLst yInt) (sOne (yLst yInt)))))) (F := ([p8] ++ ([p23] ++ ([p71] ++ F83)))) (d := (d0.1.reverse, (Mi.evens d0.2.1), x70, d0.2.2.2)) (by exact Nat.le_of_ble_eq_true rfl) ⟨_, _, _, _, rfl, rfl, r10, ⟨_, _, _, _, rfl, rfl, r25, ⟨_, _, _, _, rfl, rfl, r73, ⟨_, rfl, r84⟩⟩⟩⟩ fun p91 H95 np94 c92 r93 => ?_
    have r0 := Ty.ex r0 c92
    have r10 := Ty.ex r10 c92
    have r25 := Ty.ex r25 c92
    have r73 := Ty.ex r73 c92
    have r84 := Ty.ex r84 c92
    have c0 := c0.trans c92.none
    obtain rfl := Option.some.inj hm
    exact hQ _ _ _ c0 r93 (or_app (fun a h => .inl (n15 a h)) (or_app (fun a h => .inl (n31 a h)) (or_app (fun a h => .inl (n81 a h)) (fun a h => .inr (su85 a h))))) 
abbrev s_law : Stmt := topS 52
abbrev N_law : List Str := ["_law_script", "_law_hand_here", "_law_most", "_law_sea_here", "_law_crafts", "_law_count", "_law_path", "_law_other", "_law_turn", "_law_spot", "_law_seas", "_law_charts", "_law_ships", "_law_given", "_law_row", "_law_m", "_law_k", "_law_told", "_law_one", "_law_craft_here"]
theorem sc_law : FnScope ["_law_script", "_law_hand_here", "_law_most", "_law_sea_here", "_law_crafts", "_law_count", "_law_path", "_law_other", "_law_turn", "_law_spot", "_law_seas", "_law_charts", "_law_ships", "_law_given", "_law_row", "_law_m", "_law_k", "_law_told", "_law_one", "_law_craft_here"] ["_law_script"] (defScope s_law) := ⟨rfl, rfl, rfl, by decide +kernel, rfl, by decide +kernel, by decide +kernel⟩
def sp_law (K : PySem.W.Frag) : Sp := fun vs H Q _ => ∃ (v0 : V) (d0 : (List Int)) (r : Bool), vs = [v0] ∧ yScr.rep K H [] v0 d0 ∧ Mi.m_law d0 = some r ∧ ∀ H', Chg ([]) H H' → Q (.bl r) H'
theorem ok_law (B : Bi mg) (CN : Cs K mg) (D : Dfn K mg "law" s_law) {C_Chart : Addr} (T_Chart : Tx K mg C_Chart "Chart" nm_Chart) {C_Ship : Addr} (T_Ship : Tx K mg C_Ship "Ship" nm_Ship) (C_fuel_along : Cal P w K mg "fuel_along" ["chart", "ship", "driving"] 5 (sp_fuel_along K C_Chart C_Ship)) (C_l_hand : Cal P w K mg "_law_hand" ["_law_script", "_law_k"] 1 (sp_l_hand K)) (C_l_pick : Cal P w K mg "_law_pick" ["_law_hand_here", "_law_size"] 1 (sp_l_pick K)) (C_l_sea : Cal P w K mg "_law_sea" ["_law_hand_here", "_law_most"] 3 (sp_l_sea K)) (C_l_chart : Cal P w K mg "_law_chart" ["_law_sea_here"] 5 (sp_l_chart K C_Chart)) (C_l_ship : Cal P w K mg "_law_ship" ["_law_craft_here"] 3 (sp_l_ship K C_Ship)) (C_l_fuels : Cal P w K mg "_law_fuels" ["_law_sea_here", "_law_craft_here", "_law_path"] 3 (sp_l_fuels K)) (C_l_sail : Cal P w K mg "_law_sail" ["_law_hand_here", "_law_sea_here", "_law_craft_here", "_law_zones"] 3 (sp_l_sail K)) (C_l_open : Cal P w K mg "_law_open" ["_law_sea_here", "_law_count"] 1 (sp_l_open K)) (C_l_flows : Cal P w K mg "_law_flows" ["_law_hand_here", "_law_sea_here"] 2 (sp_l_flows K)) (C_l_ports : Cal P w K mg "_law_ports" ["_law_hand_here", "_law_sea_here"] 3 (sp_l_ports K)) (C_l_boat : Cal P w K mg "_law_boat" ["_law_hand_here", "_law_sea_here"] 3 (sp_l_boat K)) (C_l_amounts : Cal P w K mg "_law_amounts" ["_law_told", "_law_due"] 2 (sp_l_amounts K)) (C_l_other_sea : Cal P w K mg "_law_other_sea" ["_law_sea_here"] 1 (sp_l_other_sea K)) : Cal P w K mg "law" ["_law_script"] 6 (sp_law K) := by
  obtain ⟨f, fd, F, g⟩ := D.ex
  refine ⟨f, fd, g, F.kp, bindsF F (fun _ _ _ _ _ _ us hl => match us, hl with | [_], _ => rfl), fun base => F.ok sc_law (fun vs H Q E h => ?_) (fun cdv A outer s H0 vs Q E hr h => ?_)⟩
  · obtain ⟨v0, d0, r, rfl, r0, hm, hQ⟩ := h; rfl
  ·
    obtain ⟨v0, d0, r, rfl, r0, hm, hQ⟩ := h
    refine ⟨_, pss_cons (ps_set (i := 1) sc_law.nd rfl (.inl rfl) (pe_cc C_l_hand hr (pa_cons (pv 0) (pa_cons pe_int pa_nil))))
      (pss_cons (ps_set (i := 2) sc_law.nd rfl (.inl rfl) (pe_ix (ix_l (K := K)) (pe_lst (pa_cons pe_int (pa_cons pe_int (pa_cons pe_int (pa_cons pe_int (pa_cons pe_int (pa_cons pe_int (pa_cons pe_int (pa_cons pe_int pa_nil))))))))) (pe_cc C_l_pick hr (pa_cons (pv 1) (pa_cons pe_int pa_nil))) (fun _ _ => rfl)))
      (pss_cons (ps_set (i := 3) sc_law.nd rfl (.inr rfl) (pe_cc C_l_ports hr (pa_cons (pv 1) (pa_cons (pe_cc C_l_flows hr (pa_cons (pv 1) (pa_cons (pe_cc C_l_sea hr (pa_cons (pv 1) (pa_cons (pv 2) pa_nil))) pa_nil))) pa_nil))))
      (pss_cons (ps_setLc (i := 4) (own := [("_law_k", 16)]) rfl sc_law.nd rfl rfl (sw_true rfl rfl rfl (by decide +kernel)) (pi_range1 (by rfl) B.range (pa_cons pe_int pa_nil)) (blkOk_by (own := [("_law_k", 16)]) (N := N_law) (sc := defScope s_law) (by decide +kernel)) (fun _ _ _ _ _ => (pg_name (i := 16) sc_law.nd rfl (.inl rfl))) (fun _ _ _ _ _ => pts_nil) (fun _ _ _ _ _ => (pe_cc C_l_boat hr (pa_cons (pe_cc C_l_hand hr (pa_cons (pv 0) (pa_cons (pe_ix (ix_l (K := K)) (pe_lst (pa_cons pe_int (pa_cons pe_int pa_nil))) (pv 16) (fun _ _ => rfl)) pa_nil))) (pa_cons (pv 3) pa_nil)))))
      (pss_cons (ps_set (i := 1) sc_law.nd rfl (.inl rfl) (pe_cc C_l_hand hr (pa_cons (pv 0) (pa_cons pe_int pa_nil))))
      (pss_cons (ps_set (i := 5) sc_law.nd rfl (.inl rfl) (pe_op op_add pe_int (pe_cc C_l_pick hr (pa_cons (pv 1) (pa_cons pe_int pa_nil)))))
      (pss_cons (ps_if (pt_cmpR op_eq (pe_cc C_l_pick hr (pa_cons (pv 1) (pa_cons pe_int pa_nil))) pe_int (nomark _)) (pss_cons (ps_set (i := 5) sc_law.nd rfl (.inl rfl) pe_int)
      (pss_nil)) (pss_nil))
      (pss_cons (ps_set (i := 6) sc_law.nd rfl (.inl rfl) (pe_cc C_l_sail hr (pa_cons (pv 1) (pa_cons (pv 3) (pa_cons (pe_ix (ix_l (K := K)) (pv 4) pe_int (fun _ _ => rfl)) (pa_cons (pe_cc C_l_open hr (pa_cons (pv 3) (pa_cons (pv 5) pa_nil))) pa_nil))))))
      (pss_cons (ps_set (i := 1) sc_law.nd rfl (.inl rfl) (pe_cc C_l_hand hr (pa_cons (pv 0) (pa_cons pe_int pa_nil))))
      (pss_cons (ps_set (i := 7) sc_law.nd rfl (.inl rfl) (pe_callTy (cl_list (K := K)) (by rfl) B.list (by decide +kernel) (pa_cons (pv 6) pa_nil)))
      (pss_cons (ps_for PassesOwn.never rfl (pi_range1 (by rfl) B.range (pa_cons (pe_callB (cl_max2 rfl) (by rfl) B.max (by decide +kernel) (pa_cons pe_int (pa_cons (pe_op op_sub (pe_cc C_l_pick hr (pa_cons (pv 1) (pa_cons pe_int pa_nil))) pe_int) pa_nil))) pa_nil)) (pg_name (i := 8) sc_law.nd rfl (.inl rfl)) (pss_cons (ps_set (i := 9) sc_law.nd rfl (.inl rfl) (pe_cc C_l_pick hr (pa_cons (pv 1) (pa_cons (pe_callB (cl_len (K := K)) (by rfl) B.len PySem.boot_len (pa_cons (pv 7) pa_nil)) pa_nil))))
      (pss_cons (ps_asg (pe_cc C_l_pick hr (pa_cons (pv 1) (pa_cons (pe_callB (cl_len (K := K)) (by rfl) B.len PySem.boot_len (pa_cons (pe_ix (ix_t (K := K)) (pv 3) pe_int (fun _ _ => rfl)) pa_nil)) pa_nil))) (pg_sub (pv 7) (pv 9) set_list))
      (pss_nil))))
      (pss_cons (ps_set (i := 10) sc_law.nd rfl (.inl rfl) (pe_lst (pa_cons (pv 3) (pa_cons (pe_cc C_l_other_sea hr (pa_cons (pv 3) pa_nil)) pa_nil))))
      (pss_cons (ps_setLc (i := 11) (own := [("_law_one", 18)]) rfl sc_law.nd rfl rfl (sw_true rfl rfl rfl (by decide +kernel)) (pi_list (pv 10)) (blkOk_by (own := [("_law_one", 18)]) (N := N_law) (sc := defScope s_law) (by decide +kernel)) (fun _ _ _ _ _ => (pg_name (i := 18) sc_law.nd rfl (.inl rfl))) (fun _ _ _ _ _ => pts_nil) (fun _ _ _ _ _ => (pe_cc C_l_chart hr (pa_cons (pv 18) pa_nil))))
      (pss_cons (ps_setLc (i := 12) (own := [("_law_craft_here", 19)]) rfl sc_law.nd rfl rfl (sw_true rfl rfl rfl (by decide +kernel)) (pi_list (pv 4)) (blkOk_by (own := [("_law_craft_here", 19)]) (N := N_law) (sc := defScope s_law) (by decide +kernel)) (fun _ _ _ _ _ => (pg_name (i := 19) sc_law.nd rfl (.inl rfl))) (fun _ _ _ _ _ => pts_nil) (fun _ _ _ _ _ => (pe_cc C_l_ship hr (pa_cons (pv 19) pa_nil))))
      (pss_cons (ps_set (i := 13) sc_law.nd rfl (.inl rfl) (pe_lst pa_nil))
      (pss_cons (ps_for PassesOwn.never rfl (pi_list (pe_lst (pa_cons (pv 6) (pa_cons (pv 7) (pa_cons (pv 6) pa_nil))))) (pg_name (i := 14) sc_law.nd rfl (.inl rfl)) (pss_cons (ps_expr (pe_bm0 PySem.F.plainAttrs_list PySem.F.slot_list_clear PySem.F.type_list_clear mt_clear (pv 13)))
      (pss_cons (ps_expr (pe_bm PySem.F.plainAttrs_list PySem.F.slot_list_extend PySem.F.type_list_extend mt_extend (pv 13) (pa_cons (pv 14) pa_nil)))
      (pss_cons (ps_for PassesOwn.never rfl (pi_range1 (by rfl) B.range (pa_cons pe_int pa_nil)) (pg_name (i := 15) sc_law.nd rfl (.inl rfl)) (pss_cons (ps_for PassesOwn.never rfl (pi_range1 (by rfl) B.range (pa_cons pe_int pa_nil)) (pg_name (i := 16) sc_law.nd rfl (.inl rfl)) (pss_cons (ps_set (i := 17) sc_law.nd rfl (.inl rfl) (pe_cc C_fuel_along hr (pa_cons (pe_ix (ix_l (K := K)) (pv 11) (pv 15) (fun _ _ => rfl)) (pa_cons (pe_ix (ix_l (K := K)) (pv 12) (pv 16) (fun _ _ => rfl)) (pa_cons (pv 13) pa_nil)))))
      (pss_cons (ps_if (PW.pt (pw_or (pt_not (pt_val (pe_cc C_l_amounts hr (pa_cons (pv 17) (pa_cons (pe_cc C_l_fuels hr (pa_cons (pe_ix (ix_l (K := K)) (pv 10) (pv 15) (fun _ _ => rfl)) (pa_cons (pe_ix (ix_l (K := K)) (pv 4) (pv 16) (fun _ _ => rfl)) (pa_cons (pv 14) pa_nil)))) pa_nil))))) (pw_or1 (pt_cmpR (op_ne_d hr.units) (pv 13) (pv 14) (nomark _))))) (pss_cons (ps_ret pe_bl) pss_nil) (pss_nil))
      (pss_cons (ps_if (pt_cmpR op_notN1 (pv 17) pe_non (nomark _)) (pss_cons (ps_expr (pe_bm PySem.F.plainAttrs_list PySem.F.slot_list_append PySem.F.type_list_append mt_append (pv 17) (pa_cons pe_int pa_nil)))
      (pss_nil)) (pss_nil))
      (pss_nil)))))
      (pss_nil)))
      (pss_nil)))))
      (pss_cons (ps_ret pe_bl) pss_nil)))))))))))))))), ?_⟩
    have c0 : Chg ([] : List Addr) H0 H0 := Chg.refl H0
    unfold Mi.m_law at hm
    refine q_asg ?_
    refine w_call ?_
    refine w_args (va_cons (val_var rfl) (va_cons val_c va_nil)) ?_
    obtain ⟨q2, hq2, hm⟩ := Mi.bnd hm
    refine ⟨v0, d0, (0 : Int), q2, rfl, r0, hq2, fun v5 H4 F7 c3 r6 fr8  => ?_⟩
    have n9 : ∀ a ∈ F7, H0 a = none := fun a h => c0.dom a (fr8 a h)
    have r0 := Ty.fz r0 c3
    have c0 := c0.trans c3.none
    refine g_name (σ' := [some v0, some v5, none, none, none, none, none, none, none, none, none, none, none, none, none, none, none, none, none, none]) rfl ?_
    refine q_asg ?_
    refine w_op ?_
    refine w_lst ?_
    refine w_args (va_cons val_c (va_cons val_c (va_cons val_c (va_cons val_c (va_cons val_c (va_cons val_c (va_cons val_c (va_cons val_c va_nil)))))))) ?_
    refine e_lst (K := K) (τ := yInt) (by exact Nat.le_of_ble_eq_true rfl) (.cons yInt_i (.cons yInt_i (.cons yInt_i (.cons yInt_i (.cons yInt_i (.cons yInt_i (.cons yInt_i (.cons yInt_i .nil)))))))) fun p10 H14 np13 c11 r12 => ?_
    have d15 : Dj F7 [p10] := Ty.nin r6 np13
    have n16 : ∀ a ∈ [p10], H0 a = none := one_fresh (c0.dom p10 np13)
    have r0 := Ty.fz r0 c11
    have r6 := Ty.ex r6 c11
    have c0 := c0.trans c11.none
    refine w_call ?_
    refine w_args (va_cons (val_var rfl) (va_cons val_c va_nil)) ?_
    obtain ⟨q17, hq17, hm⟩ := Mi.bnd hm
    refine ⟨v5, F7, q2, (8 : Int), q17, rfl, r6, hq17, fun H19 c18 r6 => ?_⟩
    have r0 := Ty.fz r0 c18
    have r12 := Ty.chg r12 c18 d15.symm
    have c0 := c0.join c18 (fun a h => .inr (n9 a h))
    obtain ⟨x20, hx20, hm⟩ := Mi.bnd hm
    refine w_ixL r12 hx20 fun u21 r22 => ?_
    obtain ⟨_, rfl⟩ := r22
    refine g_name (σ' := [some v0, some v5, some (.int x20), none, none, none, none, none, none, none, none, none, none, none, none, none, none, none, none, none]) rfl ?_
    refine q_asg ?_
    refine w_call ?_
    refine w_cons ?_
    refine c_val (val_var rfl) ?_
    refine w_cons ?_
    refine w_call ?_
    refine w_cons ?_
    refine c_val (val_var rfl) ?_
    refine w_cons ?_
    refine w_call ?_
    refine w_args (va_cons (val_var rfl) (va_cons (val_var rfl) va_nil)) ?_
    obtain ⟨q23, hq23, hm⟩ := Mi.bnd hm
    have r6_old := r6
    refine ⟨v5, F7, q17.2, x20, q23, rfl, r6, hq23, fun v26 H25 F28 c24 r27 fr29 r6 => ?_⟩
    have d30 : Dj F7 F28 := Ty.fresh r6_old fr29
    have n31 : ∀ a ∈ F28, H0 a = none := fun a h => c0.dom a (fr29 a h)
    have r0 := Ty.fz r0 c24
    have c0 := c0.join c24 (fun a h => .inr (n9 a h))
    refine w_nil ?_
    obtain ⟨q32, hq32, hm⟩ := Mi.bnd hm
    have r6_old := r6
    refine ⟨v5, F7, q23.2, v26, F28, q23.1, q32, rfl, r6, r27, d30, hq32, fun v35 H34 F37 c33 r36 fr38 r6 => ?_⟩
    have d39 : Dj F7 F37 := Ty.freshOr r6_old fr38 (d30)
    have n40 : ∀ a ∈ F37, H0 a = none := fun a h => (fr38 a h).elim (fun z => c0.dom a z) (fun z => n31 a z)
    have r0 := Ty.fz r0 c33
    have c0 := c0.join c33 (fun a h => .inr (n9 a h))
    refine w_nil ?_
    obtain ⟨q41, hq41, hm⟩ := Mi.bnd hm
    have r6_old := r6
    refine ⟨v5, F7, q32.2, v35, F37, q32.1, q41, rfl, r6, r36, d39, hq41, fun v44 H43 F46 c42 r45 fr47 r6 => ?_⟩
    have d48 : Dj F7 F46 := Ty.freshOr r6_old fr47 (d39)
    have n49 : ∀ a ∈ F46, H0 a = none := fun a h => (fr47 a h).elim (fun z => c0.dom a z) (fun z => n40 a z)
    have r0 := Ty.fz r0 c42
    have c0 := c0.join c42 (fun a h => .inr (n9 a h))
    refine g_name (σ' := [some v0, some v5, some (.int x20), some v44, none, none, none, none, none, none, none, none, none, none, none, none, none, none, none, none]) rfl ?_
    refine q_asg ?_
    refine w_lc ?_
    refine w_iRng1 ?_
    refine w_args (va_cons val_c va_nil) ?_
    obtain ⟨g50, hg50, hm⟩ := Mi.bnd hm
    obtain ⟨e51, he51, hm⟩ := Mi.bnd hm
    refine kc_rng1 (K := K) (τ := (yTup (sCons yInt (sCons yInt (sCons yInt (sCons yInt (sOne yInt))))))) hg50 (fun D53 i H' => ∃ (s52 : (List (Int × Int × Int × Int × Int))), Chg ([] : List Addr) H0 H' ∧ yScr.rep K H' [] v0 d0 ∧ (yLst yInt).rep K H' F7 v5 q41.2 ∧ (yTup (sCons (yLst yInt) (sCons (yLst (yTup (sCons yInt (sOne yInt)))) (sCons (yLst yInt) (sOne (yLst yInt)))))).rep K H' F46 v44 q41.1 ∧ (yLst (yTup (sCons yInt (sCons yInt (sCons yInt (sCons yInt (sOne yInt))))))).rep K H' [D53] (.ref D53) s52 ∧ Dj F7 [D53] ∧ Dj F46 [D53] ∧ (∀ a ∈ [D53], H0 a = none) ∧ Mi.forN (Mi.m_law_b1 d0 q41) s52 (List.drop i g50) = some e51) (fun D53 H60 np59 c58 r54 => ⟨([] : (List (Int × Int × Int × Int × Int))), c0.trans c58.none, (Ty.fz r0 c58), (Ty.ex r6 c58), (Ty.ex r45 c58), r54, Ty.nin r6 np59, Ty.nin r45 np59, one_fresh (c0.dom D53 np59), he51⟩) (fun D53 i63 x62 H64 hx61 hp => ?_) (fun D53 H' np59 hp => ?_)
    ·
      obtain ⟨s52, c0, r0, r6, r45, r54, d55, d56, n57, hle51⟩ := hp
      obtain ⟨_, hbe51, hle51⟩ := Mi.forN_go hle51 hx61
      unfold Mi.m_law_b1 at hbe51
      refine g_name (σ' := [some v0, some v5, some (.int x20), some v44, none, none, none, none, none, none, none, none, none, none, none, none, some (.int x62), none, none, none]) rfl ?_
      refine ⟨rfl, ?_⟩
      refine w_yes ?_
      refine iteT ?_
      refine w_call ?_
      refine w_cons ?_
      refine w_call ?_
      refine w_cons ?_
      refine c_val (val_var rfl) ?_
      refine w_cons ?_
      refine w_op ?_
      refine w_lst ?_
      refine w_args (va_cons val_c (va_cons val_c va_nil)) ?_
      refine e_lst (K := K) (τ := yInt) (by exact Nat.le_of_ble_eq_true rfl) (.cons yInt_i (.cons yInt_i .nil)) fun p71 H75 np74 c72 r73 => ?_
      have d76 : Dj F7 [p71] := Ty.nin r6 np74
      have d77 : Dj F46 [p71] := Ty.nin r45 np74
      have d78 : Dj [D53] [p71] := Ty.nin r54 np74
      have n79 : ∀ a ∈ [p71], H0 a = none := one_fresh (c0.dom p71 np74)
      have r0 := Ty.fz r0 c72
      have r6 := Ty.ex r6 c72
      have r45 := Ty.ex r45 c72
      have r54 := Ty.ex r54 c72
      have c0 := c0.trans c72.none
      refine c_val (val_var rfl) ?_
      obtain ⟨x80, hx80, hbe51⟩ := Mi.bnd hbe51
      refine w_ixL r73 hx80 fun u81 r82 => ?_
      obtain ⟨_, rfl⟩ := r82
      refine w_nil ?_
      obtain ⟨q83, hq83, hbe51⟩ := Mi.bnd hbe51
      refine ⟨v0, d0, x80, q83, rfl, r0, hq83, fun v86 H85 F88 c84 r87 fr89  => ?_⟩
      have d90 : Dj F7 F88 := Ty.fresh r6 fr89
      have d91 : Dj F46 F88 := Ty.fresh r45 fr89
      have d92 : Dj [D53] F88 := Ty.fresh r54 fr89
      have n93 : ∀ a ∈ F88, H0 a = none := fun a h => c0.dom a (fr89 a h)
      have r0 := Ty.fz r0 c84
      have r6 := Ty.ex r6 c84
      have r45 := Ty.ex r45 c84
      have r54 := Ty.ex r54 c84
      have c0 := c0.trans c84.none
      refine w_cons ?_
      refine c_val (val_var rfl) ?_
      refine w_nil ?_
      obtain ⟨q94, hq94, hbe51⟩ := Mi.bnd hbe51
      refine ⟨v86, F88, q83, v44, F46, q41.1, q94, rfl, r87, r45, d91.symm, hq94, fun v97 H96 c95 r98 r87 => ?_⟩
      have r0 := Ty.fz r0 c95
      have r6 := Ty.chg r6 c95 d90
      have r45 := Ty.chg r45 c95 d91
      have r54 := Ty.chg r54 c95 d92
      have c0 := c0.join c95 (fun a h => .inr (n93 a h))
      obtain ⟨x99, hx99, hbe51⟩ := Mi.bnd hbe51
      refine e_app r54 r98 hx99 fun H101 c100 r54 => ?_
      have r0 := Ty.fz r0 c100
      have r6 := Ty.chg r6 c100 d55
      have r45 := Ty.chg r45 c100 d56
      have c0 := c0.join c100 (fun a h => .inr (n57 a h))
      obtain rfl := Option.some.inj hbe51
      exact ⟨x99, c0, r0, r6, r45, r54, d55, d56, n57, hle51⟩
    obtain ⟨s52, c0, r0, r6, r45, r54, d55, d56, n57, hle51⟩ := hp
    obtain rfl := Mi.forN_end hle51
    refine g_name (σ' := [some v0, some v5, some (.int x20), some v44, some (.ref D53), none, none, none, none, none, none, none, none, none, none, none, none, none, none, none]) rfl ?_
    refine q_asg ?_
    refine w_call ?_
    refine w_args (va_cons (val_var rfl) (va_cons val_c va_nil)) ?_
    obtain ⟨q102, hq102, hm⟩ := Mi.bnd hm
    refine ⟨v0, d0, (2 : Int), q102, rfl, r0, hq102, fun v105 H104 F107 c103 r106 fr108  => ?_⟩
    have d109 : Dj F7 F107 := Ty.fresh r6 fr108
    have d110 : Dj F46 F107 := Ty.fresh r45 fr108
    have d111 : Dj [D53] F107 := Ty.fresh r54 fr108
    have n112 : ∀ a ∈ F107, H0 a = none := fun a h => c0.dom a (fr108 a h)
    have r0 := Ty.fz r0 c103
    have r6 := Ty.ex r6 c103
    have r45 := Ty.ex r45 c103
    have r54 := Ty.ex r54 c103
    have c0 := c0.trans c103.none
    refine g_name (σ' := [some v0, some v105, some (.int x20), some v44, some (.ref D53), none, none, none, none, none, none, none, none, none, none, none, none, none, none, none]) rfl ?_
    refine q_asg ?_
    refine w_op ?_
    refine c_val val_c ?_
    refine w_call ?_
    refine w_args (va_cons (val_var rfl) (va_cons val_c va_nil)) ?_
    obtain ⟨q113, hq113, hm⟩ := Mi.bnd hm
    refine ⟨v105, F107, q102, (9 : Int), q113, rfl, r106, hq113, fun H115 c114 r106 => ?_⟩
    have r0 := Ty.fz r0 c114
    have r45 := Ty.chg r45 c114 d110
    have r54 := Ty.chg r54 c114 d111
    have c0 := c0.join c114 (fun a h => .inr (n112 a h))
    refine w_I0 ?_
    obtain ⟨count116, hcount116, hm⟩ := Mi.letE hm
    refine g_nameE (congrArg V.int hcount116) (σ' := [some v0, some v105, some (.int x20), some v44, some (.ref D53), some (.int count116), none, none, none, none, none, none, none, none, none, none, none, none, none, none]) rfl ?_
    obtain ⟨s117, hs117, hm⟩ := Mi.bnd hm
    refine s_join (R := fun σ' H' => σ' = [some v0, some v105, some (.int x20), some v44, some (.ref D53), some (.int s117.2), none, none, none, none, none, none, none, none, none, none, none, none, none, none] ∧ Chg ([] : List Addr) H0 H' ∧ yScr.rep K H' [] v0 d0 ∧ (yLst yInt).rep K H' F107 v105 s117.1 ∧ (yTup (sCons (yLst yInt) (sCons (yLst (yTup (sCons yInt (sOne yInt)))) (sCons (yLst yInt) (sOne (yLst yInt)))))).rep K H' F46 v44 q41.1 ∧ (yLst (yTup (sCons yInt (sCons yInt (sCons yInt (sCons yInt (sOne yInt))))))).rep K H' [D53] (.ref D53) s52) (fun nx kx => ?_) (fun σ' H' hj => ?_)
    ·
      refine w_ifS ?_
      refine w_test ?_
      refine w_op ?_
      refine w_call ?_
      refine w_args (va_cons (val_var rfl) (va_cons val_c va_nil)) ?_
      obtain ⟨q118, hq118, hs117⟩ := Mi.bnd hs117
      refine ⟨v105, F107, q113.2, (8 : Int), q118, rfl, r106, hq118, fun H120 c119 r106 => ?_⟩
      have r0 := Ty.fz r0 c119
      have r45 := Ty.chg r45 c119 d110
      have r54 := Ty.chg r54 c119 d111
      have c0 := c0.join c119 (fun a h => .inr (n112 a h))
      refine c_val val_c ?_
      refine w_eqI ?_
      refine ⟨_, rfl, ?_⟩
      refine c_if (fun hb => ?_) (fun hb => ?_)
      ·
        replace hs117 := Mi.ifT hb hs117
        obtain ⟨count121, hcount121, hs117⟩ := Mi.letE hs117
        refine q_setE val_c (congrArg V.int hcount121) (σ' := [some v0, some v105, some (.int x20), some v44, some (.ref D53), some (.int count121), none, none, none, none, none, none, none, none, none, none, none, none, none, none]) rfl ?_
        refine w_nextJ ?_
        obtain rfl := Option.some.inj hs117
        exact kx _ _ ⟨rfl, c0, r0, r106, r45, r54⟩
      ·
        replace hs117 := Mi.ifF hb hs117
        refine w_nextJ ?_
        obtain rfl := Option.some.inj hs117
        exact kx _ _ ⟨rfl, c0, r0, r106, r45, r54⟩
    obtain ⟨rfl, c0, r0, r106, r45, r54⟩ := hj
    refine q_asg ?_
    refine w_call ?_
    refine w_cons ?_
    refine c_val (val_var rfl) ?_
    refine w_cons ?_
    refine c_val (val_var rfl) ?_
    refine w_cons ?_
    obtain ⟨x122, hx122, hm⟩ := Mi.bnd hm
    obtain ⟨u123, r124, ku125⟩ := itm_L r54 hx122
    refine c_val (ku125 (val_var rfl) val_c) ?_
    refine w_cons ?_
    refine w_call ?_
    refine w_args (va_cons (val_var rfl) (va_cons (val_var rfl) va_nil)) ?_
    obtain ⟨q126, hq126, hm⟩ := Mi.bnd hm
    refine ⟨v44, F46, q41.1, s117.2, q126, rfl, r45, hq126, fun v129 H128 F131 c127 r130 fr132  => ?_⟩
    have d133 : Dj F107 F131 := Ty.fresh r106 fr132
    have d134 : Dj F46 F131 := Ty.fresh r45 fr132
    have d135 : Dj [D53] F131 := Ty.fresh r54 fr132
    have n136 : ∀ a ∈ F131, H0 a = none := fun a h => c0.dom a (fr132 a h)
    have r0 := Ty.fz r0 c127
    have r106 := Ty.ex r106 c127
    have r45 := Ty.ex r45 c127
    have r54 := Ty.ex r54 c127
    have r124 := Ty.fz r124 c127
    have c0 := c0.trans c127.none
    refine w_nil ?_
    obtain ⟨q137, hq137, hm⟩ := Mi.bnd hm
    have r106_old := r106
    refine ⟨v105, F107, s117.1, v44, F46, q41.1, u123, x122, v129, F131, q126, q137, rfl, r106, r45, r124, r130, d110.symm, d133, hq137, fun v140 H139 F142 c138 r141 fr143 r106 => ?_⟩
    have d144 : Dj F107 F142 := Ty.fresh r106_old fr143
    have d145 : Dj F46 F142 := Ty.fresh r45 fr143
    have d146 : Dj [D53] F142 := Ty.fresh r54 fr143
    have n147 : ∀ a ∈ F142, H0 a = none := fun a h => c0.dom a (fr143 a h)
    have r0 := Ty.fz r0 c138
    have r45 := Ty.chg r45 c138 d110
    have r54 := Ty.chg r54 c138 d111
    have c0 := c0.join c138 (fun a h => .inr (n112 a h))
    refine g_name (σ' := [some v0, some v105, some (.int x20), some v44, some (.ref D53), some (.int s117.2), some v140, none, none, none, none, none, none, none, none, none, none, none, none, none]) rfl ?_
    refine q_asg ?_
    refine w_call ?_
    refine w_args (va_cons (val_var rfl) (va_cons val_c va_nil)) ?_
    obtain ⟨q148, hq148, hm⟩ := Mi.bnd hm
    refine ⟨v0, d0, (7 : Int), q148, rfl, r0, hq148, fun v151 H150 F153 c149 r152 fr154  => ?_⟩
    have d155 : Dj F107 F153 := Ty.fresh r106 fr154
    have d156 : Dj F46 F153 := Ty.fresh r45 fr154
    have d157 : Dj [D53] F153 := Ty.fresh r54 fr154
    have d158 : Dj F142 F153 := Ty.fresh r141 fr154
    have n159 : ∀ a ∈ F153, H0 a = none := fun a h => c0.dom a (fr154 a h)
    have r0 := Ty.fz r0 c149
    have r106 := Ty.ex r106 c149
    have r45 := Ty.ex r45 c149
    have r54 := Ty.ex r54 c149
    have r141 := Ty.ex r141 c149
    have c0 := c0.trans c149.none
    refine g_name (σ' := [some v0, some v151, some (.int x20), some v44, some (.ref D53), some (.int s117.2), some v140, none, none, none, none, none, none, none, none, none, none, none, none, none]) rfl ?_
    refine q_asg ?_
    refine w_cb ?_
    refine w_args (va_cons (val_var rfl) va_nil) ?_
    refine w_listL r141 fun p160 H164 np163 c161 r162 => ?_
    have d165 : Dj F153 [p160] := Ty.nin r152 np163
    have d166 : Dj F46 [p160] := Ty.nin r45 np163
    have d167 : Dj [D53] [p160] := Ty.nin r54 np163
    have d168 : Dj F142 [p160] := Ty.nin r141 np163
    have n169 : ∀ a ∈ [p160], H0 a = none := one_fresh (c0.dom p160 np163)
    have r0 := Ty.fz r0 c161
    have r152 := Ty.ex r152 c161
    have r45 := Ty.ex r45 c161
    have r54 := Ty.ex r54 c161
    have r141 := Ty.ex r141 c161
    have c0 := c0.trans c161.none
    refine g_name (σ' := [some v0, some v151, some (.int x20), some v44, some (.ref D53), some (.int s117.2), some v140, some (.ref p160), none, none, none, none, none, none, none, none, none, none, none, none]) rfl ?_
    refine q_for ?_
    refine w_iRng1 ?_
    refine w_cons ?_
    refine w_cb ?_
    refine w_cons ?_
    refine c_val val_c ?_
    refine w_cons ?_
    refine w_op ?_
    refine w_call ?_
    refine w_args (va_cons (val_var rfl) (va_cons val_c va_nil)) ?_
    obtain ⟨q170, hq170, hm⟩ := Mi.bnd hm
    refine ⟨v151, F153, q148, (4 : Int), q170, rfl, r152, hq170, fun H172 c171 r152 => ?_⟩
    have r0 := Ty.fz r0 c171
    have r45 := Ty.chg r45 c171 d156
    have r54 := Ty.chg r54 c171 d157
    have r141 := Ty.chg r141 c171 d158
    have r162 := Ty.chg r162 c171 d165.symm
    have c0 := c0.join c171 (fun a h => .inr (n159 a h))
    refine c_val val_c ?_
    refine w_I0 ?_
    refine w_nil ?_
    refine w_max2 ?_
    refine w_nil ?_
    obtain ⟨g173, hg173, hm⟩ := Mi.bnd hm
    obtain ⟨e174, he174, hm⟩ := Mi.bnd hm
    refine l_rng1 hg173 (fun i σ' H' => ∃ (s175 : ((List Int) × (List Int))) (y176 : Option V) (y177 : Option V), σ' = [some v0, some v151, some (.int x20), some v44, some (.ref D53), some (.int s117.2), some v140, some (.ref p160), y176, y177, none, none, none, none, none, none, none, none, none, none] ∧ Chg ([] : List Addr) H0 H' ∧ yScr.rep K H' [] v0 d0 ∧ (yLst yInt).rep K H' F153 v151 s175.1 ∧ (yTup (sCons (yLst yInt) (sCons (yLst (yTup (sCons yInt (sOne yInt)))) (sCons (yLst yInt) (sOne (yLst yInt)))))).rep K H' F46 v44 q41.1 ∧ (yLst (yTup (sCons yInt (sCons yInt (sCons yInt (sCons yInt (sOne yInt))))))).rep K H' [D53] (.ref D53) s52 ∧ (yLst yInt).rep K H' F142 v140 q137.1 ∧ (yLst yInt).rep K H' [p160] (.ref p160) s175.2 ∧ Mi.forN (Mi.m_law_b2 q41) s175 (List.drop i g173) = some e174) ⟨(q170.2, q137.1), none, none, rfl, c0, r0, r152, r45, r54, r141, r162, he174⟩ (fun i180 x179 σ' H' hx178 hp => ?_) (fun σ' H' hp => ?_)
    ·
      obtain ⟨s175, y176, y177, rfl, c0, r0, r152, r45, r54, r141, r162, hle174⟩ := hp
      obtain ⟨_, hbe174, hle174⟩ := Mi.forN_go hle174 hx178
      unfold Mi.m_law_b2 at hbe174
      refine g_name (σ' := [some v0, some v151, some (.int x20), some v44, some (.ref D53), some (.int s117.2), some v140, some (.ref p160), some (.int x179), y177, none, none, none, none, none, none, none, none, none, none]) rfl ?_
      refine q_asg ?_
      refine w_call ?_
      refine w_args (va_cons (val_var rfl) (va_cons (val_lenL r162 (val_var rfl)) va_nil)) ?_
      obtain ⟨q181, hq181, hbe174⟩ := Mi.bnd hbe174
      refine ⟨v151, F153, s175.1, (s175.2.length : Int), q181, rfl, r152, hq181, fun H183 c182 r152 => ?_⟩
      have r0 := Ty.fz r0 c182
      have r45 := Ty.chg r45 c182 d156
      have r54 := Ty.chg r54 c182 d157
      have r141 := Ty.chg r141 c182 d158
      have r162 := Ty.chg r162 c182 d165.symm
      have c0 := c0.join c182 (fun a h => .inr (n159 a h))
      refine g_name (σ' := [some v0, some v151, some (.int x20), some v44, some (.ref D53), some (.int s117.2), some v140, some (.ref p160), some (.int x179), some (.int q181.1), none, none, none, none, none, none, none, none, none, none]) rfl ?_
      refine q_asg ?_
      refine w_call ?_
      obtain ⟨u184, F185, r186, su187, kx188, ku189⟩ := itm_tup (n := 0) at0 r45
      have d190 : Dj F185 F153 := Dj.sub (d156) su187
      have d191 : Dj F185 [D53] := Dj.sub (d56) su187
      have d192 : Dj F185 F142 := Dj.sub (d145) su187
      have d193 : Dj F185 [p160] := Dj.sub (d166) su187
      have n194 : ∀ a ∈ F185, H0 a = none := fun a h => n49 a (su187 a h)
      refine w_args (va_cons (val_var rfl) (va_cons (val_lenL r186 (ku189 (val_var rfl) val_c)) va_nil)) ?_
      obtain ⟨q195, hq195, hbe174⟩ := Mi.bnd hbe174
      refine ⟨v151, F153, q181.2, (q41.1.1.length : Int), q195, rfl, r152, hq195, fun H197 c196 r152 => ?_⟩
      have r0 := Ty.fz r0 c196
      have r45 := Ty.chg r45 c196 d156
      have r54 := Ty.chg r54 c196 d157
      have r141 := Ty.chg r141 c196 d158
      have r162 := Ty.chg r162 c196 d165.symm
      have c0 := c0.join c196 (fun a h => .inr (n159 a h))
      refine w_gsub ?_
      refine c_val (val_var rfl) ?_
      refine c_val (val_var rfl) ?_
      obtain ⟨x198, hx198, hbe174⟩ := Mi.bnd hbe174
      refine m_set r162 yInt_i hx198 fun H200 c199 r162 => ?_
      have r0 := Ty.fz r0 c199
      have r152 := Ty.chg r152 c199 d165
      have r45 := Ty.chg r45 c199 d166
      have r54 := Ty.chg r54 c199 d167
      have r141 := Ty.chg r141 c199 d168
      have c0 := c0.join c199 (fun a h => .inr (n169 a h))
      refine w_nextJ ?_
      obtain rfl := Option.some.inj hbe174
      exact ⟨_, (some (.int x179)), (some (.int q181.1)), rfl, c0, r0, r152, r45, r54, r141, r162, hle174⟩
    obtain ⟨s175, y176, y177, rfl, c0, r0, r152, r45, r54, r141, r162, hle174⟩ := hp
    obtain rfl := Mi.forN_end hle174
    refine q_asg ?_
    refine w_lst ?_
    refine w_cons ?_
    refine c_val (val_var rfl) ?_
    refine w_cons ?_
    refine w_call ?_
    refine w_args (va_cons (val_var rfl) va_nil) ?_
    obtain ⟨q201, hq201, hm⟩ := Mi.bnd hm
    refine ⟨v44, F46, q41.1, q201, rfl, r45, hq201, fun v204 H203 F206 c202 r205 fr207  => ?_⟩
    have d208 : Dj F153 F206 := Ty.freshOr r152 fr207 (d156.symm)
    have d210 : Dj [D53] F206 := Ty.freshOr r54 fr207 (d56.symm)
    have d211 : Dj F142 F206 := Ty.freshOr r141 fr207 (d145.symm)
    have d212 : Dj [p160] F206 := Ty.freshOr r162 fr207 (d166.symm)
    have n213 : ∀ a ∈ F206, H0 a = none := fun a h => (fr207 a h).elim (fun z => c0.dom a z) (fun z => n49 a z)
    have r0 := Ty.fz r0 c202
    have r152 := Ty.ex r152 c202
    have r45 := Ty.ex r45 c202
    have r54 := Ty.ex r54 c202
    have r141 := Ty.ex r141 c202
    have r162 := Ty.ex r162 c202
    have c0 := c0.trans c202.none
    refine w_nil ?_
    refine e_lsg (K := K) (τ := (yTup (sCons (yLst yInt) (sCons (yLst (yTup (sCons yInt (sOne yInt)))) (sCons (yLst yInt) (sOne (yLst yInt))))))) (G := (F46 ++ F206)) (by exact Nat.le_of_ble_eq_true rfl) (dm_app (Ty.dm r45) (Ty.dm r205)) (.cons ⟨F46, r45, (fun b h => List.mem_append_left _ h)⟩ (.cons ⟨F206, r205, (fun b h => List.mem_append_right _ (h))⟩ .nil)) fun p214 H218 np217 c215 r216 => ?_
    have d219 : Dj F153 (p214 :: (F46 ++ F206)) := Dj.consR (Ty.nin r152 np217) (Dj.symm (Dj.app (Dj.symm (d156.symm)) (Dj.symm (d208))))
    have d220 : Dj [D53] (p214 :: (F46 ++ F206)) := Dj.consR (Ty.nin r54 np217) (Dj.symm (Dj.app (Dj.symm (d56.symm)) (Dj.symm (d210))))
    have d221 : Dj F142 (p214 :: (F46 ++ F206)) := Dj.consR (Ty.nin r141 np217) (Dj.symm (Dj.app (Dj.symm (d145.symm)) (Dj.symm (d211))))
    have d222 : Dj [p160] (p214 :: (F46 ++ F206)) := Dj.consR (Ty.nin r162 np217) (Dj.symm (Dj.app (Dj.symm (d166.symm)) (Dj.symm (d212))))
    have n223 : ∀ a ∈ (p214 :: (F46 ++ F206)), H0 a = none := fresh_cons (c0.dom p214 np217) (app_fresh n49 n213)
    have r0 := Ty.fz r0 c215
    have r152 := Ty.ex r152 c215
    have r45 := Ty.ex r45 c215
    have r54 := Ty.ex r54 c215
    have r141 := Ty.ex r141 c215
    have r162 := Ty.ex r162 c215
    have r205 := Ty.ex r205 c215
    have c0 := c0.trans c215.none
    refine g_name (σ' := [some v0, some v151, some (.int x20), some v44, some (.ref D53), some (.int s117.2), some v140, some (.ref p160), y176, y177, some (.ref p214), none, none, none, none, none, none, none, none, none]) rfl ?_
    refine q_asg ?_
    refine w_lc ?_
    refine w_iList ?_
    refine c_val (val_var rfl) ?_
    obtain ⟨e224, he224, hm⟩ := Mi.bnd hm
    refine kc_lsg (K := K) (τ := (yObj C_Chart nm_Chart ty_Chart)) r216 (fun D226 i H' => ∃ (s225 : (List (Int × (List Int) × (List (Int × Int)) × (List Int) × (List Int) × (List (List Int))))), Chg ([] : List Addr) H0 H' ∧ yScr.rep K H' [] v0 d0 ∧ (yLst yInt).rep K H' F153 v151 s175.1 ∧ (yTup (sCons (yLst yInt) (sCons (yLst (yTup (sCons yInt (sOne yInt)))) (sCons (yLst yInt) (sOne (yLst yInt)))))).rep K H' F46 v44 q41.1 ∧ (yLst (yTup (sCons yInt (sCons yInt (sCons yInt (sCons yInt (sOne yInt))))))).rep K H' [D53] (.ref D53) s52 ∧ (yLst yInt).rep K H' F142 v140 q137.1 ∧ (yLst yInt).rep K H' [p160] (.ref p160) s175.2 ∧ (yLsg (yTup (sCons (yLst yInt) (sCons (yLst (yTup (sCons yInt (sOne yInt)))) (sCons (yLst yInt) (sOne (yLst yInt))))))).rep K H' (p214 :: (F46 ++ F206)) (.ref p214) [q41.1, q201] ∧ (yLst (yObj C_Chart nm_Chart ty_Chart)).rep K H' [D226] (.ref D226) s225 ∧ Dj F153 [D226] ∧ Dj F46 [D226] ∧ Dj [D53] [D226] ∧ Dj F142 [D226] ∧ Dj [p160] [D226] ∧ Dj (p214 :: (F46 ++ F206)) [D226] ∧ (∀ a ∈ [D226], H0 a = none) ∧ Mi.forN (Mi.m_law_b3) s225 (List.drop i [q41.1, q201]) = some e224) (fun D226 H237 np236 c235 r227 => ⟨([] : (List (Int × (List Int) × (List (Int × Int)) × (List Int) × (List Int) × (List (List Int))))), c0.trans c235.none, (Ty.fz r0 c235), (Ty.ex r152 c235), (Ty.ex r45 c235), (Ty.ex r54 c235), (Ty.ex r141 c235), (Ty.ex r162 c235), (Ty.ex r216 c235), r227, Ty.nin r152 np236, Ty.nin r45 np236, Ty.nin r54 np236, Ty.nin r141 np236, Ty.nin r162 np236, Ty.nin r216 np236, one_fresh (c0.dom D226 np236), he224⟩) (fun D226 i H' hp => by obtain ⟨s225, c0, r0, r152, r45, r54, r141, r162, r216, r227, d228, d229, d230, d231, d232, d233, n234, _⟩ := hp; exact r216) (fun D226 i240 x239 u242 F244 H241 hx238 r243 su245 hp => ?_) (fun D226 H' np236 hp => ?_)
    ·
      obtain ⟨s225, c0, r0, r152, r45, r54, r141, r162, r216, r227, d228, d229, d230, d231, d232, d233, n234, hle224⟩ := hp
      obtain ⟨_, hbe224, hle224⟩ := Mi.forN_go hle224 hx238
      unfold Mi.m_law_b3 at hbe224
      have d248 : Dj F244 F153 := Dj.sub (d219.symm) su245
      have d249 : Dj F244 [D53] := Dj.sub (d220.symm) su245
      have d250 : Dj F244 F142 := Dj.sub (d221.symm) su245
      have d251 : Dj F244 [p160] := Dj.sub (d222.symm) su245
      have d252 : Dj F244 [D226] := Dj.sub (d233) su245
      have n253 : ∀ a ∈ F244, H0 a = none := fun a h => n223 a (su245 a h)
      refine g_name (σ' := [some v0, some v151, some (.int x20), some v44, some (.ref D53), some (.int s117.2), some v140, some (.ref p160), y176, y177, some (.ref p214), none, none, none, none, none, none, none, some u242, none]) rfl ?_
      refine ⟨rfl, ?_⟩
      refine w_yes ?_
      refine iteT ?_
      refine w_call ?_
      refine w_args (va_cons (val_var rfl) va_nil) ?_
      obtain ⟨q254, hq254, hbe224⟩ := Mi.bnd hbe224
      refine ⟨u242, F244, x239, q254, rfl, r243, hq254, fun v257 H256 c255 r258  => ?_⟩
      have r0 := Ty.fz r0 c255
      have r152 := Ty.ex r152 c255
      have r45 := Ty.ex r45 c255
      have r54 := Ty.ex r54 c255
      have r141 := Ty.ex r141 c255
      have r162 := Ty.ex r162 c255
      have r216 := Ty.ex r216 c255
      have r243 := Ty.ex r243 c255
      have r227 := Ty.ex r227 c255
      have c0 := c0.trans c255.none
      obtain ⟨x259, hx259, hbe224⟩ := Mi.bnd hbe224
      refine e_app r227 r258 hx259 fun H261 c260 r227 => ?_
      have r0 := Ty.fz r0 c260
      have r152 := Ty.chg r152 c260 d228
      have r45 := Ty.chg r45 c260 d229
      have r54 := Ty.chg r54 c260 d230
      have r141 := Ty.chg r141 c260 d231
      have r162 := Ty.chg r162 c260 d232
      have r216 := Ty.chg r216 c260 d233
      have r243 := Ty.chg r243 c260 d252
      have c0 := c0.join c260 (fun a h => .inr (n234 a h))
      obtain rfl := Option.some.inj hbe224
      exact ⟨x259, c0, r0, r152, r45, r54, r141, r162, r216, r227, d228, d229, d230, d231, d232, d233, n234, hle224⟩
    obtain ⟨s225, c0, r0, r152, r45, r54, r141, r162, r216, r227, d228, d229, d230, d231, d232, d233, n234, hle224⟩ := hp
    obtain rfl := Mi.forN_end hle224
    refine g_name (σ' := [some v0, some v151, some (.int x20), some v44, some (.ref D53), some (.int s117.2), some v140, some (.ref p160), y176, y177, some (.ref p214), some (.ref D226), none, none, none, none, none, none, none, none]) rfl ?_
    refine q_asg ?_
    refine w_lc ?_
    refine w_iList ?_
    refine c_val (val_var rfl) ?_
    obtain ⟨e262, he262, hm⟩ := Mi.bnd hm
    refine kc_lst (K := K) (τ := (yObj C_Ship nm_Ship ty_Ship)) r54 (fun D264 i H' => ∃ (s263 : (List (Int × Int × Int × Int × Int))), Chg ([] : List Addr) H0 H' ∧ yScr.rep K H' [] v0 d0 ∧ (yLst yInt).rep K H' F153 v151 s175.1 ∧ (yTup (sCons (yLst yInt) (sCons (yLst (yTup (sCons yInt (sOne yInt)))) (sCons (yLst yInt) (sOne (yLst yInt)))))).rep K H' F46 v44 q41.1 ∧ (yLst (yTup (sCons yInt (sCons yInt (sCons yInt (sCons yInt (sOne yInt))))))).rep K H' [D53] (.ref D53) s52 ∧ (yLst yInt).rep K H' F142 v140 q137.1 ∧ (yLst yInt).rep K H' [p160] (.ref p160) s175.2 ∧ (yLsg (yTup (sCons (yLst yInt) (sCons (yLst (yTup (sCons yInt (sOne yInt)))) (sCons (yLst yInt) (sOne (yLst yInt))))))).rep K H' (p214 :: (F46 ++ F206)) (.ref p214) [q41.1, q201] ∧ (yLst (yObj C_Chart nm_Chart ty_Chart)).rep K H' [D226] (.ref D226) s225 ∧ (yLst (yObj C_Ship nm_Ship ty_Ship)).rep K H' [D264] (.ref D264) s263 ∧ Dj F153 [D264] ∧ Dj F46 [D264] ∧ Dj [D53] [D264] ∧ Dj F142 [D264] ∧ Dj [p160] [D264] ∧ Dj (p214 :: (F46 ++ F206)) [D264] ∧ Dj [D226] [D264] ∧ (∀ a ∈ [D264], H0 a = none) ∧ Mi.forN (Mi.m_law_b4) s263 (List.drop i s52) = some e262) (fun D264 H276 np275 c274 r265 => ⟨([] : (List (Int × Int × Int × Int × Int))), c0.trans c274.none, (Ty.fz r0 c274), (Ty.ex r152 c274), (Ty.ex r45 c274), (Ty.ex r54 c274), (Ty.ex r141 c274), (Ty.ex r162 c274), (Ty.ex r216 c274), (Ty.ex r227 c274), r265, Ty.nin r152 np275, Ty.nin r45 np275, Ty.nin r54 np275, Ty.nin r141 np275, Ty.nin r162 np275, Ty.nin r216 np275, Ty.nin r227 np275, one_fresh (c0.dom D264 np275), he262⟩) (fun D264 i H' hp => by obtain ⟨s263, c0, r0, r152, r45, r54, r141, r162, r216, r227, r265, d266, d267, d268, d269, d270, d271, d272, n273, _⟩ := hp; exact r54) (fun D264 i279 x278 u281 H280 hx277 r282 hp => ?_) (fun D264 H' np275 hp => ?_)
    ·
      obtain ⟨s263, c0, r0, r152, r45, r54, r141, r162, r216, r227, r265, d266, d267, d268, d269, d270, d271, d272, n273, hle262⟩ := hp
      obtain ⟨_, hbe262, hle262⟩ := Mi.forN_go hle262 hx277
      unfold Mi.m_law_b4 at hbe262
      refine g_name (σ' := [some v0, some v151, some (.int x20), some v44, some (.ref D53), some (.int s117.2), some v140, some (.ref p160), y176, y177, some (.ref p214), some (.ref D226), none, none, none, none, none, none, none, some u281]) rfl ?_
      refine ⟨rfl, ?_⟩
      refine w_yes ?_
      refine iteT ?_
      refine w_call ?_
      refine w_args (va_cons (val_var rfl) va_nil) ?_
      obtain ⟨q287, hq287, hbe262⟩ := Mi.bnd hbe262
      refine ⟨u281, x278, q287, rfl, r282, hq287, fun v290 H289 c288 r291  => ?_⟩
      have r0 := Ty.fz r0 c288
      have r152 := Ty.ex r152 c288
      have r45 := Ty.ex r45 c288
      have r54 := Ty.ex r54 c288
      have r141 := Ty.ex r141 c288
      have r162 := Ty.ex r162 c288
      have r216 := Ty.ex r216 c288
      have r227 := Ty.ex r227 c288
      have r282 := Ty.fz r282 c288
      have r265 := Ty.ex r265 c288
      have c0 := c0.trans c288.none
      obtain ⟨x292, hx292, hbe262⟩ := Mi.bnd hbe262
      refine e_app r265 r291 hx292 fun H294 c293 r265 => ?_
      have r0 := Ty.fz r0 c293
      have r152 := Ty.chg r152 c293 d266
      have r45 := Ty.chg r45 c293 d267
      have r54 := Ty.chg r54 c293 d268
      have r141 := Ty.chg r141 c293 d269
      have r162 := Ty.chg r162 c293 d270
      have r216 := Ty.chg r216 c293 d271
      have r227 := Ty.chg r227 c293 d272
      have r282 := Ty.fz r282 c293
      have c0 := c0.join c293 (fun a h => .inr (n273 a h))
      obtain rfl := Option.some.inj hbe262
      exact ⟨x292, c0, r0, r152, r45, r54, r141, r162, r216, r227, r265, d266, d267, d268, d269, d270, d271, d272, n273, hle262⟩
    obtain ⟨s263, c0, r0, r152, r45, r54, r141, r162, r216, r227, r265, d266, d267, d268, d269, d270, d271, d272, n273, hle262⟩ := hp
    obtain rfl := Mi.forN_end hle262
    refine g_name (σ' := [some v0, some v151, some (.int x20), some v44, some (.ref D53), some (.int s117.2), some v140, some (.ref p160), y176, y177, some (.ref p214), some (.ref D226), some (.ref D264), none, none, none, none, none, none, none]) rfl ?_
    refine q_asg ?_
    refine w_lst ?_
    refine w_args va_nil ?_
    refine e_lst (K := K) (τ := yInt) (by exact Nat.le_of_ble_eq_true rfl) .nil fun p295 H299 np298 c296 r297 => ?_
    have d300 : Dj F153 [p295] := Ty.nin r152 np298
    have d301 : Dj F46 [p295] := Ty.nin r45 np298
    have d302 : Dj [D53] [p295] := Ty.nin r54 np298
    have d303 : Dj F142 [p295] := Ty.nin r141 np298
    have d304 : Dj [p160] [p295] := Ty.nin r162 np298
    have d305 : Dj (p214 :: (F46 ++ F206)) [p295] := Ty.nin r216 np298
    have d306 : Dj [D226] [p295] := Ty.nin r227 np298
    have d307 : Dj [D264] [p295] := Ty.nin r265 np298
    have n308 : ∀ a ∈ [p295], H0 a = none := one_fresh (c0.dom p295 np298)
    have r0 := Ty.fz r0 c296
    have r152 := Ty.ex r152 c296
    have r45 := Ty.ex r45 c296
    have r54 := Ty.ex r54 c296
    have r141 := Ty.ex r141 c296
    have r162 := Ty.ex r162 c296
    have r216 := Ty.ex r216 c296
    have r227 := Ty.ex r227 c296
    have r265 := Ty.ex r265 c296
    have c0 := c0.trans c296.none
    refine g_name (σ' := [some v0, some v151, some (.int x20), some v44, some (.ref D53), some (.int s117.2), some v140, some (.ref p160), y176, y177, some (.ref p214), some (.ref D226), some (.ref D264), some (.ref p295), none, none, none, none, none, none]) rfl ?_
    refine q_for ?_
    refine w_iList ?_
    refine w_lst ?_
    refine w_args (va_cons (val_var rfl) (va_cons (val_var rfl) (va_cons (val_var rfl) va_nil))) ?_
    refine e_lsg (K := K) (τ := (yLst yInt)) (G := (F142 ++ [p160])) (by exact Nat.le_of_ble_eq_true rfl) (dm_app (Ty.dm r141) (Ty.dm r162)) (.cons ⟨F142, r141, (fun b h => List.mem_append_left _ h)⟩ (.cons ⟨[p160], r162, (fun b h => List.mem_append_right _ (h))⟩ (.cons ⟨F142, r141, (fun b h => List.mem_append_left _ h)⟩ .nil))) fun p309 H313 np312 c310 r311 => ?_
    have d314 : Dj F153 (p309 :: (F142 ++ [p160])) := Dj.consR (Ty.nin r152 np312) (Dj.symm (Dj.app (Dj.symm (d158.symm)) (Dj.symm (d165))))
    have d315 : Dj F46 (p309 :: (F142 ++ [p160])) := Dj.consR (Ty.nin r45 np312) (Dj.symm (Dj.app (Dj.symm (d145)) (Dj.symm (d166))))
    have d316 : Dj [D53] (p309 :: (F142 ++ [p160])) := Dj.consR (Ty.nin r54 np312) (Dj.symm (Dj.app (Dj.symm (d146)) (Dj.symm (d167))))
    have d317 : Dj (p214 :: (F46 ++ F206)) (p309 :: (F142 ++ [p160])) := Dj.consR (Ty.nin r216 np312) (Dj.symm (Dj.app (Dj.symm (d221.symm)) (Dj.symm (d222.symm))))
    have d318 : Dj [D226] (p309 :: (F142 ++ [p160])) := Dj.consR (Ty.nin r227 np312) (Dj.symm (Dj.app (Dj.symm (d231.symm)) (Dj.symm (d232.symm))))
    have d319 : Dj [D264] (p309 :: (F142 ++ [p160])) := Dj.consR (Ty.nin r265 np312) (Dj.symm (Dj.app (Dj.symm (d269.symm)) (Dj.symm (d270.symm))))
    have d320 : Dj [p295] (p309 :: (F142 ++ [p160])) := Dj.consR (Ty.nin r297 np312) (Dj.symm (Dj.app (Dj.symm (d303.symm)) (Dj.symm (d304.symm))))
    have n321 : ∀ a ∈ (p309 :: (F142 ++ [p160])), H0 a = none := fresh_cons (c0.dom p309 np312) (app_fresh n147 n169)
    have r0 := Ty.fz r0 c310
    have r152 := Ty.ex r152 c310
    have r45 := Ty.ex r45 c310
    have r54 := Ty.ex r54 c310
    have r141 := Ty.ex r141 c310
    have r162 := Ty.ex r162 c310
    have r216 := Ty.ex r216 c310
    have r227 := Ty.ex r227 c310
    have r265 := Ty.ex r265 c310
    have r297 := Ty.ex r297 c310
    have c0 := c0.trans c310.none
    obtain ⟨e322, he322, hm⟩ := Mi.bnd hm
    refine l_lsg r311 (fun i σ' H' => ∃ (s323 : (List Int)) (y324 : Option V) (y325 : Option V) (y326 : Option V) (y327 : Option V), σ' = [some v0, some v151, some (.int x20), some v44, some (.ref D53), some (.int s117.2), some v140, some (.ref p160), y176, y177, some (.ref p214), some (.ref D226), some (.ref D264), some (.ref p295), y324, y325, y326, y327, none, none] ∧ Chg ([] : List Addr) H0 H' ∧ yScr.rep K H' [] v0 d0 ∧ (yLst yInt).rep K H' F153 v151 s175.1 ∧ (yTup (sCons (yLst yInt) (sCons (yLst (yTup (sCons yInt (sOne yInt)))) (sCons (yLst yInt) (sOne (yLst yInt)))))).rep K H' F46 v44 q41.1 ∧ (yLst (yTup (sCons yInt (sCons yInt (sCons yInt (sCons yInt (sOne yInt))))))).rep K H' [D53] (.ref D53) s52 ∧ (yLst yInt).rep K H' F142 v140 q137.1 ∧ (yLst yInt).rep K H' [p160] (.ref p160) s175.2 ∧ (yLsg (yTup (sCons (yLst yInt) (sCons (yLst (yTup (sCons yInt (sOne yInt)))) (sCons (yLst yInt) (sOne (yLst yInt))))))).rep K H' (p214 :: (F46 ++ F206)) (.ref p214) [q41.1, q201] ∧ (yLst (yObj C_Chart nm_Chart ty_Chart)).rep K H' [D226] (.ref D226) s225 ∧ (yLst (yObj C_Ship nm_Ship ty_Ship)).rep K H' [D264] (.ref D264) s263 ∧ (yLst yInt).rep K H' [p295] (.ref p295) s323 ∧ (yLsg (yLst yInt)).rep K H' (p309 :: (F142 ++ [p160])) (.ref p309) [q137.1, s175.2, q137.1] ∧ Mi.forR (Mi.m_law_b5 q41 s52 q201 s225 s263) s323 (List.drop i [q137.1, s175.2, q137.1]) = some e322) ⟨([] : (List Int)), none, none, none, none, rfl, c0, r0, r152, r45, r54, r141, r162, r216, r227, r265, r297, r311, he322⟩ (fun i σ' H' hp => by obtain ⟨s323, y324, y325, y326, y327, rfl, c0, r0, r152, r45, r54, r141, r162, r216, r227, r265, r297, r311, _⟩ := hp; exact r311) (fun i330 x329 u331 F333 σ' H' hx328 r332 su334 hp => ?_) (fun σ' H' hp => ?_)
    ·
      obtain ⟨s323, y324, y325, y326, y327, rfl, c0, r0, r152, r45, r54, r141, r162, r216, r227, r265, r297, r311, hle322⟩ := hp
      obtain ⟨o335, hbe322, hore322⟩ := Mi.forR_go hle322 hx328
      unfold Mi.m_law_b5 at hbe322
      have d336 : Dj F333 F153 := Dj.sub (d314.symm) su334
      have d337 : Dj F333 F46 := Dj.sub (d315.symm) su334
      have d338 : Dj F333 [D53] := Dj.sub (d316.symm) su334
      have d339 : Dj F333 (p214 :: (F46 ++ F206)) := Dj.sub (d317.symm) su334
      have d340 : Dj F333 [D226] := Dj.sub (d318.symm) su334
      have d341 : Dj F333 [D264] := Dj.sub (d319.symm) su334
      have d342 : Dj F333 [p295] := Dj.sub (d320.symm) su334
      have n343 : ∀ a ∈ F333, H0 a = none := fun a h => n321 a (su334 a h)
      refine g_name (σ' := [some v0, some v151, some (.int x20), some v44, some (.ref D53), some (.int s117.2), some v140, some (.ref p160), y176, y177, some (.ref p214), some (.ref D226), some (.ref D264), some (.ref p295), some u331, y325, y326, y327, none, none]) rfl ?_
      refine q_drop (w_bm0 (c_val (val_var rfl) ⟨tyv_lst r297, ?_⟩))
      refine m_clear r297 fun H345 c344 r297 => ?_
      have r0 := Ty.fz r0 c344
      have r152 := Ty.chg r152 c344 d300
      have r45 := Ty.chg r45 c344 d301
      have r54 := Ty.chg r54 c344 d302
      have r141 := Ty.chg r141 c344 d303
      have r162 := Ty.chg r162 c344 d304
      have r216 := Ty.chg r216 c344 d305
      have r227 := Ty.chg r227 c344 d306
      have r265 := Ty.chg r265 c344 d307
      have r332 := Ty.chg r332 c344 d342
      have r311 := Ty.chg r311 c344 d320.symm
      have c0 := c0.join c344 (fun a h => .inr (n308 a h))
      refine q_drop (w_bm (c_val (val_var rfl) ⟨tyv_lst r297, ?_⟩))
      refine w_args (va_cons (val_var rfl) va_nil) ?_
      obtain ⟨x346, hx346, hbe322⟩ := Mi.bnd hbe322
      refine m_ext r297 r332 hx346 fun H348 c347 r297 => ?_
      have r0 := Ty.fz r0 c347
      have r152 := Ty.chg r152 c347 d300
      have r45 := Ty.chg r45 c347 d301
      have r54 := Ty.chg r54 c347 d302
      have r141 := Ty.chg r141 c347 d303
      have r162 := Ty.chg r162 c347 d304
      have r216 := Ty.chg r216 c347 d305
      have r227 := Ty.chg r227 c347 d306
      have r265 := Ty.chg r265 c347 d307
      have r332 := Ty.chg r332 c347 d342
      have r311 := Ty.chg r311 c347 d320.symm
      have c0 := c0.join c347 (fun a h => .inr (n308 a h))
      refine q_for ?_
      refine w_iRng1 ?_
      refine w_args (va_cons val_c va_nil) ?_
      obtain ⟨g349, hg349, hbe322⟩ := Mi.bnd hbe322
      obtain ⟨e350, he350, hbe322⟩ := Mi.bnd hbe322
      refine l_rng1 hg349 (fun i σ' H' => ∃ (s351 : Unit) (y352 : Option V) (y353 : Option V) (y354 : Option V), σ' = [some v0, some v151, some (.int x20), some v44, some (.ref D53), some (.int s117.2), some v140, some (.ref p160), y176, y177, some (.ref p214), some (.ref D226), some (.ref D264), some (.ref p295), some u331, y352, y353, y354, none, none] ∧ Chg ([] : List Addr) H0 H' ∧ yScr.rep K H' [] v0 d0 ∧ (yLst yInt).rep K H' F153 v151 s175.1 ∧ (yTup (sCons (yLst yInt) (sCons (yLst (yTup (sCons yInt (sOne yInt)))) (sCons (yLst yInt) (sOne (yLst yInt)))))).rep K H' F46 v44 q41.1 ∧ (yLst (yTup (sCons yInt (sCons yInt (sCons yInt (sCons yInt (sOne yInt))))))).rep K H' [D53] (.ref D53) s52 ∧ (yLst yInt).rep K H' F142 v140 q137.1 ∧ (yLst yInt).rep K H' [p160] (.ref p160) s175.2 ∧ (yLsg (yTup (sCons (yLst yInt) (sCons (yLst (yTup (sCons yInt (sOne yInt)))) (sCons (yLst yInt) (sOne (yLst yInt))))))).rep K H' (p214 :: (F46 ++ F206)) (.ref p214) [q41.1, q201] ∧ (yLst (yObj C_Chart nm_Chart ty_Chart)).rep K H' [D226] (.ref D226) s225 ∧ (yLst (yObj C_Ship nm_Ship ty_Ship)).rep K H' [D264] (.ref D264) s263 ∧ (yLst yInt).rep K H' [p295] (.ref p295) x346 ∧ (yLst yInt).rep K H' F333 u331 x329 ∧ (yLsg (yLst yInt)).rep K H' (p309 :: (F142 ++ [p160])) (.ref p309) [q137.1, s175.2, q137.1] ∧ Mi.forR (Mi.m_law_b6 q41 s52 q201 s225 s263 x329 x346) s351 (List.drop i g349) = some e350) ⟨(), y325, y326, y327, rfl, c0, r0, r152, r45, r54, r141, r162, r216, r227, r265, r297, r332, r311, he350⟩ (fun i357 x356 σ' H' hx355 hp => ?_) (fun σ' H' hp => ?_)
      ·
        obtain ⟨s351, y352, y353, y354, rfl, c0, r0, r152, r45, r54, r141, r162, r216, r227, r265, r297, r332, r311, hle350⟩ := hp
        obtain ⟨o358, hbe350, hore350⟩ := Mi.forR_go hle350 hx355
        unfold Mi.m_law_b6 at hbe350
        refine g_name (σ' := [some v0, some v151, some (.int x20), some v44, some (.ref D53), some (.int s117.2), some v140, some (.ref p160), y176, y177, some (.ref p214), some (.ref D226), some (.ref D264), some (.ref p295), some u331, some (.int x356), y353, y354, none, none]) rfl ?_
        refine q_for ?_
        refine w_iRng1 ?_
        refine w_args (va_cons val_c va_nil) ?_
        obtain ⟨g359, hg359, hbe350⟩ := Mi.bnd hbe350
        obtain ⟨e360, he360, hbe350⟩ := Mi.bnd hbe350
        refine l_rng1 hg359 (fun i σ' H' => ∃ (s361 : Unit) (y362 : Option V) (y363 : Option V), σ' = [some v0, some v151, some (.int x20), some v44, some (.ref D53), some (.int s117.2), some v140, some (.ref p160), y176, y177, some (.ref p214), some (.ref D226), some (.ref D264), some (.ref p295), some u331, some (.int x356), y362, y363, none, none] ∧ Chg ([] : List Addr) H0 H' ∧ yScr.rep K H' [] v0 d0 ∧ (yLst yInt).rep K H' F153 v151 s175.1 ∧ (yTup (sCons (yLst yInt) (sCons (yLst (yTup (sCons yInt (sOne yInt)))) (sCons (yLst yInt) (sOne (yLst yInt)))))).rep K H' F46 v44 q41.1 ∧ (yLst (yTup (sCons yInt (sCons yInt (sCons yInt (sCons yInt (sOne yInt))))))).rep K H' [D53] (.ref D53) s52 ∧ (yLst yInt).rep K H' F142 v140 q137.1 ∧ (yLst yInt).rep K H' [p160] (.ref p160) s175.2 ∧ (yLsg (yTup (sCons (yLst yInt) (sCons (yLst (yTup (sCons yInt (sOne yInt)))) (sCons (yLst yInt) (sOne (yLst yInt))))))).rep K H' (p214 :: (F46 ++ F206)) (.ref p214) [q41.1, q201] ∧ (yLst (yObj C_Chart nm_Chart ty_Chart)).rep K H' [D226] (.ref D226) s225 ∧ (yLst (yObj C_Ship nm_Ship ty_Ship)).rep K H' [D264] (.ref D264) s263 ∧ (yLst yInt).rep K H' [p295] (.ref p295) x346 ∧ (yLst yInt).rep K H' F333 u331 x329 ∧ (yLsg (yLst yInt)).rep K H' (p309 :: (F142 ++ [p160])) (.ref p309) [q137.1, s175.2, q137.1] ∧ Mi.forR (Mi.m_law_b7 q41 s52 q201 s225 s263 x329 x346 x356) s361 (List.drop i g359) = some e360) ⟨(), y353, y354, rfl, c0, r0, r152, r45, r54, r141, r162, r216, r227, r265, r297, r332, r311, he360⟩ (fun i366 x365 σ' H' hx364 hp => ?_) (fun σ' H' hp => ?_)
        ·
          obtain ⟨s361, y362, y363, rfl, c0, r0, r152, r45, r54, r141, r162, r216, r227, r265, r297, r332, r311, hle360⟩ := hp
          obtain ⟨o367, hbe360, hore360⟩ := Mi.forR_go hle360 hx364
          unfold Mi.m_law_b7 at hbe360
          refine g_name (σ' := [some v0, some v151, some (.int x20), some v44, some (.ref D53), some (.int s117.2), some v140, some (.ref p160), y176, y177, some (.ref p214), some (.ref D226), some (.ref D264), some (.ref p295), some u331, some (.int x356), some (.int x365), y363, none, none]) rfl ?_
          refine q_asg ?_
          refine w_call ?_
          obtain ⟨x368, hx368, hbe360⟩ := Mi.bnd hbe360
          obtain ⟨u369, r370, ku371⟩ := itm_L r227 hx368
          obtain ⟨x372, hx372, hbe360⟩ := Mi.bnd hbe360
          obtain ⟨u373, r374, ku375⟩ := itm_L r265 hx372
          refine w_args (va_cons (ku371 (val_var rfl) (val_var rfl)) (va_cons (ku375 (val_var rfl) (val_var rfl)) (va_cons (val_var rfl) va_nil))) ?_
          obtain ⟨q376, hq376, hbe360⟩ := Mi.bnd hbe360
          refine ⟨u369, x368, u373, x372, (.ref p295), [p295], x346, q376, rfl, r370, r374, r297, hq376, fun v379 H378 F381 c377 r380 fr382  => ?_⟩
          have d383 : Dj F153 F381 := Ty.fresh r152 fr382
          have d384 : Dj F46 F381 := Ty.fresh r45 fr382
          have d385 : Dj [D53] F381 := Ty.fresh r54 fr382
          have d386 : Dj F142 F381 := Ty.fresh r141 fr382
          have d387 : Dj [p160] F381 := Ty.fresh r162 fr382
          have d388 : Dj (p214 :: (F46 ++ F206)) F381 := Ty.fresh r216 fr382
          have d389 : Dj [D226] F381 := Ty.fresh r227 fr382
          have d390 : Dj [D264] F381 := Ty.fresh r265 fr382
          have d391 : Dj [p295] F381 := Ty.fresh r297 fr382
          have d392 : Dj F333 F381 := Ty.fresh r332 fr382
          have d393 : Dj (p309 :: (F142 ++ [p160])) F381 := Ty.fresh r311 fr382
          have n394 : ∀ a ∈ F381, H0 a = none := fun a h => c0.dom a (fr382 a h)
          have r0 := Ty.fz r0 c377
          have r152 := Ty.ex r152 c377
          have r45 := Ty.ex r45 c377
          have r54 := Ty.ex r54 c377
          have r141 := Ty.ex r141 c377
          have r162 := Ty.ex r162 c377
          have r216 := Ty.ex r216 c377
          have r227 := Ty.ex r227 c377
          have r265 := Ty.ex r265 c377
          have r297 := Ty.ex r297 c377
          have r332 := Ty.ex r332 c377
          have r311 := Ty.ex r311 c377
          have c0 := c0.trans c377.none
          refine g_name (σ' := [some v0, some v151, some (.int x20), some v44, some (.ref D53), some (.int s117.2), some v140, some (.ref p160), y176, y177, some (.ref p214), some (.ref D226), some (.ref D264), some (.ref p295), some u331, some (.int x356), some (.int x365), some v379, none, none]) rfl ?_
          refine q_ifS ?_
          obtain ⟨b395, hb395, hbe360⟩ := Mi.bnd hbe360
          refine j_tt b395 (R := fun H' => Chg ([] : List Addr) H0 H' ∧ yScr.rep K H' [] v0 d0 ∧ (yLst yInt).rep K H' F153 v151 s175.1 ∧ (yTup (sCons (yLst yInt) (sCons (yLst (yTup (sCons yInt (sOne yInt)))) (sCons (yLst yInt) (sOne (yLst yInt)))))).rep K H' F46 v44 q41.1 ∧ (yLst (yTup (sCons yInt (sCons yInt (sCons yInt (sCons yInt (sOne yInt))))))).rep K H' [D53] (.ref D53) s52 ∧ (yLst yInt).rep K H' F142 v140 q137.1 ∧ (yLst yInt).rep K H' [p160] (.ref p160) s175.2 ∧ (yLsg (yTup (sCons (yLst yInt) (sCons (yLst (yTup (sCons yInt (sOne yInt)))) (sCons (yLst yInt) (sOne (yLst yInt))))))).rep K H' (p214 :: (F46 ++ F206)) (.ref p214) [q41.1, q201] ∧ (yLst (yObj C_Chart nm_Chart ty_Chart)).rep K H' [D226] (.ref D226) s225 ∧ (yLst (yObj C_Ship nm_Ship ty_Ship)).rep K H' [D264] (.ref D264) s263 ∧ (yLst yInt).rep K H' [p295] (.ref p295) x346 ∧ (yLst yInt).rep K H' F333 u331 x329 ∧ (yOpt (yLst yInt)).rep K H' F381 v379 q376 ∧ (yLsg (yLst yInt)).rep K H' (p309 :: (F142 ++ [p160])) (.ref p309) [q137.1, s175.2, q137.1]) (fun Q' kq => ?_) (fun H' hj => ?_)
          ·
            refine w_or ?_
            refine w_not ?_
            refine w_B ?_
            refine w_call ?_
            refine w_cons ?_
            refine c_val (val_var rfl) ?_
            refine w_cons ?_
            refine w_call ?_
            obtain ⟨x396, hx396, hb395⟩ := Mi.bnd hb395
            obtain ⟨u397, F398, r399, su400, ap401, kx402, ku403⟩ := itm_G r216 hx396
            have d404 : Dj F398 F153 := Dj.sub (d219.symm) su400
            have d405 : Dj F398 [D53] := Dj.sub (d220.symm) su400
            have d406 : Dj F398 F142 := Dj.sub (d221.symm) su400
            have d407 : Dj F398 [p160] := Dj.sub (d222.symm) su400
            have d408 : Dj F398 [D226] := Dj.sub (d233) su400
            have d409 : Dj F398 [D264] := Dj.sub (d271) su400
            have d410 : Dj F398 [p295] := Dj.sub (d305) su400
            have d411 : Dj F398 F333 := Dj.sub (d339.symm) su400
            have d412 : Dj F398 F381 := Dj.sub (d388) su400
            have d413 : Dj F398 (p309 :: (F142 ++ [p160])) := Dj.sub (d317) su400
            have n414 : ∀ a ∈ F398, H0 a = none := fun a h => n223 a (su400 a h)
            obtain ⟨x415, hx415, hb395⟩ := Mi.bnd hb395
            obtain ⟨u416, r417, ku418⟩ := itm_L r54 hx415
            refine w_args (va_cons (ku403 (val_var rfl) (val_var rfl)) (va_cons (ku418 (val_var rfl) (val_var rfl)) (va_cons (val_var rfl) va_nil))) ?_
            obtain ⟨q419, hq419, hb395⟩ := Mi.bnd hb395
            refine ⟨u397, F398, x396, u416, x415, u331, F333, x329, q419, rfl, r399, r417, r332, hq419, fun v422 H421 F424 c420 r423 fr425  => ?_⟩
            have d426 : Dj F153 F424 := Ty.fresh r152 fr425
            have d427 : Dj F46 F424 := Ty.fresh r45 fr425
            have d428 : Dj [D53] F424 := Ty.fresh r54 fr425
            have d429 : Dj F142 F424 := Ty.fresh r141 fr425
            have d430 : Dj [p160] F424 := Ty.fresh r162 fr425
            have d431 : Dj (p214 :: (F46 ++ F206)) F424 := Ty.fresh r216 fr425
            have d432 : Dj [D226] F424 := Ty.fresh r227 fr425
            have d433 : Dj [D264] F424 := Ty.fresh r265 fr425
            have d434 : Dj [p295] F424 := Ty.fresh r297 fr425
            have d435 : Dj F333 F424 := Ty.fresh r332 fr425
            have d436 : Dj F381 F424 := Ty.fresh r380 fr425
            have d437 : Dj (p309 :: (F142 ++ [p160])) F424 := Ty.fresh r311 fr425
            have n438 : ∀ a ∈ F424, H0 a = none := fun a h => c0.dom a (fr425 a h)
            have r0 := Ty.fz r0 c420
            have r152 := Ty.ex r152 c420
            have r45 := Ty.ex r45 c420
            have r54 := Ty.ex r54 c420
            have r141 := Ty.ex r141 c420
            have r162 := Ty.ex r162 c420
            have r216 := Ty.ex r216 c420
            have r227 := Ty.ex r227 c420
            have r265 := Ty.ex r265 c420
            have r297 := Ty.ex r297 c420
            have r332 := Ty.ex r332 c420
            have r380 := Ty.ex r380 c420
            have r311 := Ty.ex r311 c420
            have c0 := c0.trans c420.none
            refine w_nil ?_
            obtain ⟨q439, hq439, hb395⟩ := Mi.bnd hb395
            refine ⟨v379, F381, q376, v422, F424, q419, q439, rfl, r380, r423, hq439, fun H441 c440  => ?_⟩
            have r0 := Ty.fz r0 c440
            have r152 := Ty.ex r152 c440
            have r45 := Ty.ex r45 c440
            have r54 := Ty.ex r54 c440
            have r141 := Ty.ex r141 c440
            have r162 := Ty.ex r162 c440
            have r216 := Ty.ex r216 c440
            have r227 := Ty.ex r227 c440
            have r265 := Ty.ex r265 c440
            have r297 := Ty.ex r297 c440
            have r332 := Ty.ex r332 c440
            have r380 := Ty.ex r380 c440
            have r311 := Ty.ex r311 c440
            have c0 := c0.trans c440.none
            refine ⟨_, rfl, ?_⟩
            refine c_if (fun hb => ?_) (fun hb => ?_)
            ·
              replace hb395 := Mi.ifT hb hb395
              obtain rfl := Option.some.inj hb395
              exact kq _ ⟨c0, r0, r152, r45, r54, r141, r162, r216, r227, r265, r297, r332, r380, r311⟩
            replace hb395 := Mi.ifF hb hb395
            refine w_test ?_
            refine w_op ?_
            refine c_val (val_var rfl) ?_
            refine c_val (val_var rfl) ?_
            refine w_neD (τ := (yLst yInt)) (dat_lst dat_int) r297 r332 ?_
            refine ⟨_, rfl, ?_⟩
            obtain rfl := Option.some.inj hb395
            exact kq _ ⟨c0, r0, r152, r45, r54, r141, r162, r216, r227, r265, r297, r332, r380, r311⟩
          obtain ⟨c0, r0, r152, r45, r54, r141, r162, r216, r227, r265, r297, r332, r380, r311⟩ := hj
          refine c_if (fun hb => ?_) (fun hb => ?_)
          ·
            replace hbe360 := Mi.ifT hb hbe360
            refine q_ret ?_
            refine c_val val_c ?_
            obtain rfl := Option.some.inj hbe360
            obtain rfl := Mi.or_inl hore360
            obtain rfl := Option.some.inj (Mi.orL_inl hbe350)
            obtain rfl := Mi.or_inl hore350
            obtain rfl := Option.some.inj (Mi.orL_inl hbe322)
            obtain rfl := Mi.or_inl hore322
            obtain rfl := Option.some.inj (Mi.orR_inl hm)
            exact hQ _ c0 
          replace hbe360 := Mi.ifF hb hbe360
          refine w_fall ?_
          obtain ⟨s442, hs442, hbe360⟩ := Mi.bnd hbe360
          refine s_join (R := fun σ' H' => σ' = [some v0, some v151, some (.int x20), some v44, some (.ref D53), some (.int s117.2), some v140, some (.ref p160), y176, y177, some (.ref p214), some (.ref D226), some (.ref D264), some (.ref p295), some u331, some (.int x356), some (.int x365), some v379, none, none] ∧ Chg ([] : List Addr) H0 H' ∧ yScr.rep K H' [] v0 d0 ∧ (yLst yInt).rep K H' F153 v151 s175.1 ∧ (yTup (sCons (yLst yInt) (sCons (yLst (yTup (sCons yInt (sOne yInt)))) (sCons (yLst yInt) (sOne (yLst yInt)))))).rep K H' F46 v44 q41.1 ∧ (yLst (yTup (sCons yInt (sCons yInt (sCons yInt (sCons yInt (sOne yInt))))))).rep K H' [D53] (.ref D53) s52 ∧ (yLst yInt).rep K H' F142 v140 q137.1 ∧ (yLst yInt).rep K H' [p160] (.ref p160) s175.2 ∧ (yLsg (yTup (sCons (yLst yInt) (sCons (yLst (yTup (sCons yInt (sOne yInt)))) (sCons (yLst yInt) (sOne (yLst yInt))))))).rep K H' (p214 :: (F46 ++ F206)) (.ref p214) [q41.1, q201] ∧ (yLst (yObj C_Chart nm_Chart ty_Chart)).rep K H' [D226] (.ref D226) s225 ∧ (yLst (yObj C_Ship nm_Ship ty_Ship)).rep K H' [D264] (.ref D264) s263 ∧ (yLst yInt).rep K H' [p295] (.ref p295) x346 ∧ (yLst yInt).rep K H' F333 u331 x329 ∧ (yLsg (yLst yInt)).rep K H' (p309 :: (F142 ++ [p160])) (.ref p309) [q137.1, s175.2, q137.1]) (fun nx kx => ?_) (fun σ' H' hj => ?_)
          ·
            refine s_if (ans_t (val_notN r380 (val_var rfl))) (fun hb => ?_) (fun hb => ?_)
            ·
              replace hs442 := Mi.ifT hb hs442
              obtain ⟨x443, hx443, hs442⟩ := Mi.bnd hs442
              have r444 := opt_some r380 hx443
              refine q_drop (w_bm (c_val (val_var rfl) ⟨tyv_lst r444, ?_⟩))
              refine w_args (va_cons val_c va_nil) ?_
              obtain ⟨x445, hx445, hs442⟩ := Mi.bnd hs442
              refine m_app r444 yInt_i hx445 fun H447 c446 r444 => ?_
              have r0 := Ty.fz r0 c446
              have r152 := Ty.chg r152 c446 d383
              have r45 := Ty.chg r45 c446 d384
              have r54 := Ty.chg r54 c446 d385
              have r141 := Ty.chg r141 c446 d386
              have r162 := Ty.chg r162 c446 d387
              have r216 := Ty.chg r216 c446 d388
              have r227 := Ty.chg r227 c446 d389
              have r265 := Ty.chg r265 c446 d390
              have r297 := Ty.chg r297 c446 d391
              have r332 := Ty.chg r332 c446 d392
              have r311 := Ty.chg r311 c446 d393
              have c0 := c0.join c446 (fun a h => .inr (n394 a h))
              refine w_nextJ ?_
              obtain rfl := Option.some.inj hs442
              exact kx _ _ ⟨rfl, c0, r0, r152, r45, r54, r141, r162, r216, r227, r265, r297, r332, r311⟩
            ·
              replace hs442 := Mi.ifF hb hs442
              refine w_nextJ ?_
              obtain rfl := Option.some.inj hs442
              exact kx _ _ ⟨rfl, c0, r0, r152, r45, r54, r141, r162, r216, r227, r265, r297, r332, r311⟩
          obtain ⟨rfl, c0, r0, r152, r45, r54, r141, r162, r216, r227, r265, r297, r332, r311⟩ := hj
          refine w_nextJ ?_
          obtain rfl := Option.some.inj hbe360
          replace hore360 := Mi.or_inr hore360
          exact ⟨_, (some (.int x365)), (some v379), rfl, c0, r0, r152, r45, r54, r141, r162, r216, r227, r265, r297, r332, r311, hore360⟩
        obtain ⟨s361, y362, y363, rfl, c0, r0, r152, r45, r54, r141, r162, r216, r227, r265, r297, r332, r311, hle360⟩ := hp
        obtain rfl := Mi.forR_end hle360
        replace hbe350 := Mi.orL_inr hbe350
        refine w_nextJ ?_
        obtain rfl := Option.some.inj hbe350
        replace hore350 := Mi.or_inr hore350
        exact ⟨_, (some (.int x356)), y362, y363, rfl, c0, r0, r152, r45, r54, r141, r162, r216, r227, r265, r297, r332, r311, hore350⟩
      obtain ⟨s351, y352, y353, y354, rfl, c0, r0, r152, r45, r54, r141, r162, r216, r227, r265, r297, r332, r311, hle350⟩ := hp
      obtain rfl := Mi.forR_end hle350
      replace hbe322 := Mi.orL_inr hbe322
      refine w_nextJ ?_
      obtain rfl := Option.some.inj hbe322
      replace hore322 := Mi.or_inr hore322
      exact ⟨_, (some u331), y352, y353, y354, rfl, c0, r0, r152, r45, r54, r141, r162, r216, r227, r265, r297, r311, hore322⟩
    obtain ⟨s323, y324, y325, y326, y327, rfl, c0, r0, r152, r45, r54, r141, r162, r216, r227, r265, r297, r311, hle322⟩ := hp
    obtain rfl := Mi.forR_end hle322
    replace hm := Mi.orR_inr hm
    refine q_ret ?_
    refine c_val val_c ?_
    obtain rfl := Option.some.inj hm
    exact hQ _ c0 
end
end G

set_option maxHeartbeats 0
namespace G
open PySem PySem.Spec PyProof.Rows L2
theorem fun_of {K : PySem.W.Frag} {x q : Str} {st : Stmt} {f : Addr} {fd : FuncData} (F : FunD K x q (defArgs st) (defBody st) (defScope st) [] [] f fd) : Fun K x q st f fd := by
  obtain ⟨oc, od, dV, kV, doc, pm, an, cdv, ct, osl, e, lk, hcd, hd, _⟩ := F.ex
  rcases hd with ⟨_, rfl⟩ | ⟨z, _⟩
  · exact ⟨⟨oc, od, kV, doc, pm, an, cdv, ct, osl, e, lk, hcd⟩, F.kp⟩
  · exact absurd rfl z
def dOf (x : Str) (i : Nat) : He.DefD := ⟨(x, none), x, x, defArgs (topS i), defBody (topS i), defScope (topS i), [], []⟩
def dOfD (x : Str) (i : Nat) (dv : List He.Dv) : He.DefD := ⟨(x, none), x, x, defArgs (topS i), defBody (topS i), defScope (topS i), dv, []⟩
def dOfM (c m qual : Str) (st : Stmt) (kw : List (Str × He.Dv)) : He.DefD := ⟨(c, some m), m, qual, defArgs st, defBody st, defScope st, [], kw⟩
def fnL : List He.DefD := [dOfM "Ship" "__init__" "Ship.__init__" s_Ship_init [("slow", .int 0), ("fast", .int 1), ("tank", .int 8), ("fuel", .non)], dOf "is_zone" 17, dOf "good_numbers" 23, dOf "good_depths" 24, dOf "good_lanes" 25, dOf "good_tide" 26, dOf "good_harbours" 27, dOf "ordered_lanes" 28, dOf "joined_places" 29, dOfM "Chart" "__init__" "Chart.__init__" s_Chart_init [("tide", .adr (kwdAt ("Chart", some "__init__") "tide")), ("harbours", .adr (kwdAt ("Chart", some "__init__") "harbours"))], dOfM "Chart" "water" "Chart.water" s_Chart_water [], dOfM "Chart" "neighbours" "Chart.neighbours" s_Chart_neighbours [], dOf "next_ring" 10, dOf "least_lanes" 11, dOf "step_lanes" 12, dOfM "Chart" "is_harbour" "Chart.is_harbour" s_Chart_is_harbour [], dOf "fuel_after" 14, dOf "fuel_along" 15, dOf "_law_hand" 32, dOf "_law_pick" 33, dOf "_law_int" 34, dOf "_law_some" 35, dOf "_law_sea" 36, dOf "_law_chart" 37, dOf "_law_craft" 38, dOf "_law_ship" 39, dOf "_law_water" 40, dOf "_law_touches" 41, dOf "_law_lanes" 42, dOf "_law_filled" 43, dOf "_law_fuels" 44, dOf "_law_sail" 45, dOf "_law_open" 46, dOf "_law_flows" 47, dOf "_law_ports" 48, dOf "_law_boat" 49, dOf "_law_amounts" 50, dOf "_law_other_sea" 51, dOf "law" 52]
def faL : List He.Fa := [.mkr "Ship", .glo "is_zone", .glo "good_numbers", .glo "good_depths", .glo "good_lanes", .glo "good_tide", .glo "good_harbours", .glo "ordered_lanes", .glo "joined_places", .mkr "Chart", .meth "Chart" "water", .meth "Chart" "neighbours", .glo "next_ring", .glo "least_lanes", .glo "step_lanes", .meth "Chart" "is_harbour", .glo "fuel_after", .glo "fuel_along", .glo "_law_hand", .glo "_law_pick", .glo "_law_int", .glo "_law_some", .glo "_law_sea", .glo "_law_chart", .glo "_law_craft", .glo "_law_ship", .glo "_law_water", .glo "_law_touches", .glo "_law_lanes", .glo "_law_filled", .glo "_law_fuels", .glo "_law_sail", .glo "_law_open", .glo "_law_flows", .glo "_law_ports", .glo "_law_boat", .glo "_law_amounts", .glo "_law_other_sea", .glo "law", .free "len", .free "range", .free "int", .free "bool", .free "isinstance", .free "max", .free "min", .free "list", .free "tuple", .free "sorted", .free "set", .free "enumerate", .free "zip", .free "reversed", .free "sum", .free "any", .free "all", .free "str", .int "GREATEST_DEPTH" 99, .int "GREATEST_TIDE" 20, .int "MOST_DRAUGHT" 99, .int "MOST_PLACES" 12, .int "MOST_SPEED" 3, .int "MOST_TANK" 8, .int "MOST_TIDE_NUMBERS" 12, .glo "Ship", .cls "Ship", .noat "Ship" "draught", .noat "Ship" "slow", .noat "Ship" "fast", .noat "Ship" "tank", .noat "Ship" "fuel", .glo "Chart", .cls "Chart", .noat "Chart" "size", .noat "Chart" "depths", .noat "Chart" "lanes", .noat "Chart" "tide", .noat "Chart" "harbours", .noat "Chart" "joined"]
abbrev R : PySem.W.OpenRow := PySem.W.OpenLaw.row PySem.Challenge.rw_fogfleet_k09_fuel_along_a_driving
def exL (K : PySem.W.Frag) : Bool := tupAt K (kwdAt ("Chart", some "__init__") "tide" K) (([0] : List Int).map He.Dv.int) && tupAt K (kwdAt ("Chart", some "__init__") "harbours" K) (([] : List Int).map He.Dv.int)
abbrev hk : PySem.W.Hook := hookE 6 faL fnL exL
def ob (s : PySem.W.SharedT) : He.AlD × Bool := obsEG 6 faL fnL exL (HandSHeadRun.getT s)
theorem ob_eq (s : PySem.W.SharedT) : ob s = hk.obs s.abs := obsEG_eq (HandSHeadRun.getT_eq s)
def looseL : List Str := (["_wall", "FleetError", "InvalidChart", "InvalidShip", "MOST_DRAUGHT", "MOST_SPEED", "MOST_TANK", "Ship", "next_ring", "least_lanes", "step_lanes", "fuel_after", "fuel_along", "is_zone", "MOST_PLACES", "GREATEST_DEPTH", "MOST_TIDE_NUMBERS", "GREATEST_TIDE", "good_numbers", "good_depths"] : List Str) ++ (["good_lanes", "good_tide", "good_harbours", "ordered_lanes", "joined_places", "Chart", "_law_hand", "_law_pick", "_law_int", "_law_some", "_law_sea", "_law_chart", "_law_craft", "_law_ship", "_law_water", "_law_touches", "_law_lanes", "_law_filled", "_law_fuels", "_law_sail"] : List Str) ++ (["_law_open", "_law_flows", "_law_ports", "_law_boat", "_law_amounts", "_law_other_sea"] : List Str)
theorem run (w : World) : HandSHeadRun.RunEq R (PySem.W.view R.prog [52]) hk ob 6000 looseL w := by
  intro os
  kernel_rfl
theorem dfn_of {K : PySem.W.Frag} {h : Heap} {mg : Str → Option Value} (X : K.In h) (G : h.Ns mainGlobals mg) (c : He.SaysD faL fnL K) (i j k : Nat) (x : Str) (hi : fnL[i]? = some (dOf x k)) (hj : faL[j]? = some (.glo x)) : Dfn K mg x (topS k) := by
  obtain ⟨fd, F⟩ := c.def_ i hi
  exact ⟨⟨_, fd, fun_of F, He.glo_ok X G (c.fact j hj)⟩⟩
theorem dfnD_of {K : PySem.W.Frag} {h : Heap} {mg : Str → Option Value} (X : K.In h) (G : h.Ns mainGlobals mg) (c : He.SaysD faL fnL K) (i j k : Nat) (x : Str) (dv : List He.Dv) (hi : fnL[i]? = some (dOfD x k dv)) (hj : faL[j]? = some (.glo x)) : DfnD K mg x (topS k) (dv.map (He.Dv.v K)) := by
  obtain ⟨fd, F⟩ := c.def_ i hi
  exact ⟨⟨_, fd, F, He.glo_ok X G (c.fact j hj)⟩⟩
theorem dfnM_of {K : PySem.W.Frag} (c : He.SaysD faL fnL K) (i j : Nat) (C m qual : Str) (st : Stmt) (hi : fnL[i]? = some (dOfM C m qual st [])) (hj : faL[j]? = some (.meth C m)) : DfnM K (He.ga K C) m qual st := by
  obtain ⟨fd, F⟩ := c.def_ i hi
  exact ⟨⟨_, fd, fun_of F, He.meth_ok (c.fact j hj)⟩⟩
theorem dfnI_of {K : PySem.W.Frag} (c : He.SaysD faL fnL K) (i j : Nat) (C qual : Str) (st : Stmt) (kw : List (Str × He.Dv)) (hi : fnL[i]? = some (dOfM C "__init__" qual st kw)) (hj : faL[j]? = some (.mkr C)) : DfnI K (He.ga K C) qual st (kw.map fun q => (q.1, q.2.v K)) := by
  obtain ⟨fd, F⟩ := c.def_ i hi
  exact ⟨⟨_, fd, F, He.mkr_ok (c.fact j hj)⟩⟩
theorem facts {P : Program} {w : World} {K : PySem.W.Frag} {h : Heap} {mg : Str → Option Value} (X : K.In h) (G : h.Ns mainGlobals mg) (c : He.SaysD faL fnL K) (ce : exL K = true) {fa : Addr} (hfa : mg ("law" : Str) = some (.ref fa)) :
    ∃ fd : FuncData, (∀ (s : Shared) (v : Value), BindsTo s fd ⟨[v], []⟩ [("_law_script", v)]) ∧ ∀ base : Heap, K.In base → base.Ns mainGlobals mg → FnOk P w K mg base CX0 6 fa fd ["_law_script"] (sp_law K) := by
  have B : Bi mg := ⟨He.free_ok X G (c.fact 39 rfl), He.free_ok X G (c.fact 40 rfl), He.free_ok X G (c.fact 41 rfl), He.free_ok X G (c.fact 42 rfl), He.free_ok X G (c.fact 43 rfl), He.free_ok X G (c.fact 44 rfl), He.free_ok X G (c.fact 45 rfl), He.free_ok X G (c.fact 46 rfl), He.free_ok X G (c.fact 47 rfl), He.free_ok X G (c.fact 48 rfl), He.free_ok X G (c.fact 49 rfl), He.free_ok X G (c.fact 50 rfl), He.free_ok X G (c.fact 51 rfl), He.free_ok X G (c.fact 52 rfl), He.free_ok X G (c.fact 53 rfl), He.free_ok X G (c.fact 54 rfl), He.free_ok X G (c.fact 55 rfl), He.free_ok X G (c.fact 56 rfl)⟩
  obtain ⟨ce1_, ce1⟩ := He.ba (show (_ && _) = true from ce)
  have ce0 := ce1_
  have CN : Cs K mg := ⟨He.int_ok X G (c.fact 57 rfl), He.int_ok X G (c.fact 58 rfl), He.int_ok X G (c.fact 59 rfl), He.int_ok X G (c.fact 60 rfl), He.int_ok X G (c.fact 61 rfl), He.int_ok X G (c.fact 62 rfl), He.int_ok X G (c.fact 63 rfl), tupAt_ints ce0, tupAt_ints ce1⟩
  have T_Ship : Tx K mg (He.ga K "Ship") "Ship" nm_Ship := ⟨He.cls_ok (c.fact 65 rfl), He.glo_ok X G (c.fact 64 rfl), fun f hf => by
    simp only [List.mem_cons, List.not_mem_nil, or_false] at hf
    rcases hf with rfl | rfl | rfl | rfl | rfl
    · exact He.noat_ok (c.fact 66 rfl)
    · exact He.noat_ok (c.fact 67 rfl)
    · exact He.noat_ok (c.fact 68 rfl)
    · exact He.noat_ok (c.fact 69 rfl)
    · exact He.noat_ok (c.fact 70 rfl)⟩
  have T_Chart : Tx K mg (He.ga K "Chart") "Chart" nm_Chart := ⟨He.cls_ok (c.fact 72 rfl), He.glo_ok X G (c.fact 71 rfl), fun f hf => by
    simp only [List.mem_cons, List.not_mem_nil, or_false] at hf
    rcases hf with rfl | rfl | rfl | rfl | rfl | rfl
    · exact He.noat_ok (c.fact 73 rfl)
    · exact He.noat_ok (c.fact 74 rfl)
    · exact He.noat_ok (c.fact 75 rfl)
    · exact He.noat_ok (c.fact 76 rfl)
    · exact He.noat_ok (c.fact 77 rfl)
    · exact He.noat_ok (c.fact 78 rfl)⟩
  have I_Ship : CalI P w K mg (He.ga K "Ship") "Ship.__init__" s_Ship_init (kw_Ship K) ["self", "draught", "slow", "fast", "tank", "fuel"] 1 (sp_Ship_init K (He.ga K "Ship")) := ok_Ship_init B CN T_Ship (dfnI_of c 0 0 "Ship" "Ship.__init__" s_Ship_init [("slow", .int 0), ("fast", .int 1), ("tank", .int 8), ("fuel", .non)] rfl rfl)
  have C_is_zone : Cal P w K mg "is_zone" ["zone", "size"] 1 (sp_is_zone K) := ok_is_zone B CN (dfn_of X G c 1 1 17 "is_zone" rfl rfl)
  have C_good_numbers : Cal P w K mg "good_numbers" ["numbers", "most", "greatest"] 1 (sp_good_numbers K) := ok_good_numbers B CN (dfn_of X G c 2 2 23 "good_numbers" rfl rfl)
  have C_good_depths : Cal P w K mg "good_depths" ["depths"] 2 (sp_good_depths K) := ok_good_depths B CN (dfn_of X G c 3 3 24 "good_depths" rfl rfl) C_good_numbers
  have C_good_lanes : Cal P w K mg "good_lanes" ["lanes", "size"] 1 (sp_good_lanes K) := ok_good_lanes B CN (dfn_of X G c 4 4 25 "good_lanes" rfl rfl)
  have C_good_tide : Cal P w K mg "good_tide" ["tide"] 2 (sp_good_tide K) := ok_good_tide B CN (dfn_of X G c 5 5 26 "good_tide" rfl rfl) C_good_numbers
  have C_good_harbours : Cal P w K mg "good_harbours" ["harbours", "size"] 2 (sp_good_harbours K) := ok_good_harbours B CN (dfn_of X G c 6 6 27 "good_harbours" rfl rfl) C_is_zone
  have C_ordered_lanes : Cal P w K mg "ordered_lanes" ["lanes"] 1 (sp_ordered_lanes K) := ok_ordered_lanes B CN (dfn_of X G c 7 7 28 "ordered_lanes" rfl rfl)
  have C_joined_places : Cal P w K mg "joined_places" ["size", "lanes"] 1 (sp_joined_places K) := ok_joined_places B CN (dfn_of X G c 8 8 29 "joined_places" rfl rfl)
  have I_Chart : CalI P w K mg (He.ga K "Chart") "Chart.__init__" s_Chart_init (kw_Chart K) ["self", "depths", "lanes", "tide", "harbours"] 3 (sp_Chart_init K (He.ga K "Chart")) := ok_Chart_init B CN T_Chart C_good_depths C_good_lanes C_good_tide C_good_harbours C_ordered_lanes C_joined_places (dfnI_of c 9 9 "Chart" "Chart.__init__" s_Chart_init [("tide", .adr (kwdAt ("Chart", some "__init__") "tide")), ("harbours", .adr (kwdAt ("Chart", some "__init__") "harbours"))] rfl rfl)
  have M_Chart_water : CalM P w K mg (He.ga K "Chart") "water" ["self", "place", "hour"] 1 (sp_Chart_water K (He.ga K "Chart")) := ok_Chart_water B CN T_Chart (dfnM_of c 10 10 "Chart" "water" "Chart.water" s_Chart_water rfl rfl)
  have M_Chart_neighbours : CalM P w K mg (He.ga K "Chart") "neighbours" ["self", "place"] 1 (sp_Chart_neighbours K (He.ga K "Chart")) := ok_Chart_neighbours B CN T_Chart (dfnM_of c 11 11 "Chart" "neighbours" "Chart.neighbours" s_Chart_neighbours rfl rfl)
  have C_next_ring : Cal P w K mg "next_ring" ["chart", "wet", "ring"] 2 (sp_next_ring K (He.ga K "Chart")) := ok_next_ring B CN (dfn_of X G c 12 12 10 "next_ring" rfl rfl) T_Chart M_Chart_neighbours
  have C_least_lanes : Cal P w K mg "least_lanes" ["chart", "ship", "hour", "start"] 3 (sp_least_lanes K (He.ga K "Chart") (He.ga K "Ship")) := ok_least_lanes B CN (dfn_of X G c 13 13 11 "least_lanes" rfl rfl) T_Chart T_Ship M_Chart_water C_next_ring
  have C_step_lanes : Cal P w K mg "step_lanes" ["chart", "ship", "hour", "start", "goal"] 4 (sp_step_lanes K (He.ga K "Chart") (He.ga K "Ship")) := ok_step_lanes B CN (dfn_of X G c 14 14 12 "step_lanes" rfl rfl) T_Chart T_Ship C_least_lanes
  have M_Chart_is_harbour : CalM P w K mg (He.ga K "Chart") "is_harbour" ["self", "place"] 1 (sp_Chart_is_harbour K (He.ga K "Chart")) := ok_Chart_is_harbour B CN T_Chart (dfnM_of c 15 15 "Chart" "is_harbour" "Chart.is_harbour" s_Chart_is_harbour rfl rfl)
  have C_fuel_after : Cal P w K mg "fuel_after" ["chart", "ship", "place", "amount"] 2 (sp_fuel_after K (He.ga K "Chart") (He.ga K "Ship")) := ok_fuel_after B CN (dfn_of X G c 16 16 14 "fuel_after" rfl rfl) T_Chart T_Ship M_Chart_is_harbour
  have C_fuel_along : Cal P w K mg "fuel_along" ["chart", "ship", "driving"] 5 (sp_fuel_along K (He.ga K "Chart") (He.ga K "Ship")) := ok_fuel_along B CN (dfn_of X G c 17 17 15 "fuel_along" rfl rfl) T_Chart T_Ship C_step_lanes C_fuel_after
  have C_l_hand : Cal P w K mg "_law_hand" ["_law_script", "_law_k"] 1 (sp_l_hand K) := ok_l_hand B CN (dfn_of X G c 18 18 32 "_law_hand" rfl rfl)
  have C_l_pick : Cal P w K mg "_law_pick" ["_law_hand_here", "_law_size"] 1 (sp_l_pick K) := ok_l_pick B CN (dfn_of X G c 19 19 33 "_law_pick" rfl rfl)
  have C_l_int : Cal P w K mg "_law_int" ["_law_x"] 1 (sp_l_int K) := ok_l_int B CN (dfn_of X G c 20 20 34 "_law_int" rfl rfl)
  have C_l_some : Cal P w K mg "_law_some" ["_law_hand_here", "_law_size", "_law_share"] 2 (sp_l_some K) := ok_l_some B CN (dfn_of X G c 21 21 35 "_law_some" rfl rfl) C_l_pick
  have C_l_sea : Cal P w K mg "_law_sea" ["_law_hand_here", "_law_most"] 3 (sp_l_sea K) := ok_l_sea B CN (dfn_of X G c 22 22 36 "_law_sea" rfl rfl) C_l_pick C_l_some
  have C_l_chart : Cal P w K mg "_law_chart" ["_law_sea_here"] 5 (sp_l_chart K (He.ga K "Chart")) := ok_l_chart B CN (dfn_of X G c 23 23 37 "_law_chart" rfl rfl) T_Chart I_Chart
  have C_l_craft : Cal P w K mg "_law_craft" ["_law_hand_here", "_law_sea_here"] 2 (sp_l_craft K) := ok_l_craft B CN (dfn_of X G c 24 24 38 "_law_craft" rfl rfl) C_l_pick
  have C_l_ship : Cal P w K mg "_law_ship" ["_law_craft_here"] 3 (sp_l_ship K (He.ga K "Ship")) := ok_l_ship B CN (dfn_of X G c 25 25 39 "_law_ship" rfl rfl) T_Ship I_Ship
  have C_l_water : Cal P w K mg "_law_water" ["_law_sea_here", "_law_place", "_law_when"] 1 (sp_l_water K) := ok_l_water B CN (dfn_of X G c 26 26 40 "_law_water" rfl rfl)
  have C_l_touches : Cal P w K mg "_law_touches" ["_law_sea_here", "_law_here", "_law_place"] 1 (sp_l_touches K) := ok_l_touches B CN (dfn_of X G c 27 27 41 "_law_touches" rfl rfl)
  have C_l_lanes : Cal P w K mg "_law_lanes" ["_law_sea_here", "_law_craft_here", "_law_when", "_law_start"] 2 (sp_l_lanes K) := ok_l_lanes B CN (dfn_of X G c 28 28 42 "_law_lanes" rfl rfl) C_l_water C_l_touches
  have C_l_filled : Cal P w K mg "_law_filled" ["_law_sea_here", "_law_craft_here", "_law_place", "_law_amount"] 1 (sp_l_filled K) := ok_l_filled B CN (dfn_of X G c 29 29 43 "_law_filled" rfl rfl)
  have C_l_fuels : Cal P w K mg "_law_fuels" ["_law_sea_here", "_law_craft_here", "_law_path"] 3 (sp_l_fuels K) := ok_l_fuels B CN (dfn_of X G c 30 30 44 "_law_fuels" rfl rfl) C_l_lanes C_l_filled
  have C_l_sail : Cal P w K mg "_law_sail" ["_law_hand_here", "_law_sea_here", "_law_craft_here", "_law_zones"] 3 (sp_l_sail K) := ok_l_sail B CN (dfn_of X G c 31 31 45 "_law_sail" rfl rfl) C_l_pick C_l_lanes C_l_filled
  have C_l_open : Cal P w K mg "_law_open" ["_law_sea_here", "_law_count"] 1 (sp_l_open K) := ok_l_open B CN (dfn_of X G c 32 32 46 "_law_open" rfl rfl)
  have C_l_flows : Cal P w K mg "_law_flows" ["_law_hand_here", "_law_sea_here"] 2 (sp_l_flows K) := ok_l_flows B CN (dfn_of X G c 33 33 47 "_law_flows" rfl rfl) C_l_pick
  have C_l_ports : Cal P w K mg "_law_ports" ["_law_hand_here", "_law_sea_here"] 3 (sp_l_ports K) := ok_l_ports B CN (dfn_of X G c 34 34 48 "_law_ports" rfl rfl) C_l_pick C_l_some
  have C_l_boat : Cal P w K mg "_law_boat" ["_law_hand_here", "_law_sea_here"] 3 (sp_l_boat K) := ok_l_boat B CN (dfn_of X G c 35 35 49 "_law_boat" rfl rfl) C_l_pick C_l_craft
  have C_l_amounts : Cal P w K mg "_law_amounts" ["_law_told", "_law_due"] 2 (sp_l_amounts K) := ok_l_amounts B CN (dfn_of X G c 36 36 50 "_law_amounts" rfl rfl) C_l_int
  have C_l_other_sea : Cal P w K mg "_law_other_sea" ["_law_sea_here"] 1 (sp_l_other_sea K) := ok_l_other_sea B CN (dfn_of X G c 37 37 51 "_law_other_sea" rfl rfl)
  have C_law : Cal P w K mg "law" ["_law_script"] 6 (sp_law K) := ok_law B CN (dfn_of X G c 38 38 52 "law" rfl rfl) T_Chart T_Ship C_fuel_along C_l_hand C_l_pick C_l_sea C_l_chart C_l_ship C_l_fuels C_l_sail C_l_open C_l_flows C_l_ports C_l_boat C_l_amounts C_l_other_sea
  exact fn_law hfa C_law
end G

open PySem PySem.W PySem.Calls PyProof.Rows
theorem PySem.Challenge.cw_fogfleet_k09_fuel_along_a_driving_holds : PySem.Challenge.rw_fogfleet_k09_fuel_along_a_driving.Holds := by
  w_on; o_law
  refine HandSHeadRun.head_any (r := OpenLaw.row PySem.Challenge.rw_fogfleet_k09_fuel_along_a_driving) (q := view (OpenLaw.row PySem.Challenge.rw_fogfleet_k09_fuel_along_a_driving).prog [52]) (H := G.hk) (ob := G.ob) (M := 6000) (loose := G.looseL) (d := HandSHeadRun.topDef (OpenLaw.row PySem.Challenge.rw_fogfleet_k09_fuel_along_a_driving).prog 52) (kwd := []) G.ob_eq
    (by kernel_rfl) (fun s => by kernel_rfl) G.run (by kernel_rfl) (by kernel_rfl) (by kernel_rfl) (by rfl) (by first | assumption | decide +kernel) (by decide +kernel) ⟨rfl, rfl, rfl, rfl, rfl, by decide +kernel⟩ ?hw ?hc
  case hw => w_witness2
  case hc =>
    refine L2.walk_ofE (l := PySem.Challenge.rw_fogfleet_k09_fuel_along_a_driving) (n := 63) (k := 6) (x := "_law_script") (CX := L2.CX0) rfl (by decide) (by kernel_rfl) ⟨rfl, by decide, by decide⟩ ?F (fun _ _ _ _ z => z)
    intro w mg fa h Y G0 hmg0
    obtain ⟨K, KX, c, ce⟩ := Y
    have hmg : mg ("law" : PySem.Str) = some (.ref fa) := by
      have e : (HandSHeadRun.topDef (OpenLaw.row PySem.Challenge.rw_fogfleet_k09_fuel_along_a_driving).prog 52).name = ("law" : PySem.Str) := by kernel_rfl
      rw [← e]
      exact hmg0
    obtain ⟨fd, hb, hF⟩ := G.facts (P := (PySem.Challenge.rw_fogfleet_k09_fuel_along_a_driving).prog) (w := w) KX G0 c ce hmg
    exact ⟨K, fd, G.sp_law K, KX, hb, fun H a ns hl hO hS => ⟨_, ns, true, rfl, G.yScr_of hO hS, Mi.law_true ns hl, fun _ _ => rfl⟩, hF⟩
