import PyProof.Rows.All
import Wide.All
import OpenK.AllK
import Wide.FinOn
import HandS.ForMost
import HandS.ForExc
import HandS.Wide
import HandS.IsInst
import HandS.Flow
import HandS.Defaults
import HandS.SortInts
import HandS.Strs
import HandS.TupSets
import HandS.MakeKw
import HandS.MakeKwOnly
import HandS.Conv
import HandS.Steps
import KE.GoesMore
import HandS.Text
import HandS.Iter
import HandS.SortRule
import HandS.TupLe
import HandS.HeadHook1
import HandS.HeadHook2
import HandS.Deep
import KE.KStateDown
import Lean
import HandS.Head0
import HandS.Head1
import HandS.Head2
import HandS.HeadEnd
import PySem.Challenge.RW_fogfleet_k05_arrivals_by_tide
set_option Elab.async false
set_option linter.all false
set_option maxRecDepth 100000
set_option maxHeartbeats 4000000
/-! the plain meaning of the program's steps: none is what this text says nothing about -/
namespace Mi
def pyLet {α β : Type} (e : α) (f : α → β) : β := f e
def ixN (n : Nat) (i : Int) : Option Nat := if 0 ≤ i then (if i < n then some i.toNat else none) else if -(n : Int) ≤ i then some (i + n).toNat else none
def at_ {α : Type} (xs : List α) (i : Int) : Option α := (ixN xs.length i).bind fun j => xs[j]?
def setAt {α : Type} (xs : List α) (i : Int) (x : α) : Option (List α) := (ixN xs.length i).bind fun j => some (xs.set j x)
def sIx (n d : Nat) : Option Int → Nat
  | none => d
  | some v => if v < 0 then (v + (n : Int)).toNat else min v.toNat n
def cut {α : Type} (xs : List α) (lo hi : Option Int) : List α := (xs.drop (sIx xs.length 0 lo)).take (sIx xs.length xs.length hi - sIx xs.length 0 lo)
def big : Nat := 1000000
def app {α : Type} (xs : List α) (x : α) : Option (List α) := if xs.length < big then some (xs ++ [x]) else none
def cat {α : Type} (xs ys : List α) : Option (List α) := if xs.length + ys.length ≤ big then some (xs ++ ys) else none
def mul (i j : Int) : Option Int := if (-(2 ^ 64) < i ∧ i < 2 ^ 64) ∨ (-(2 ^ 64) < j ∧ j < 2 ^ 64) then some (i * j) else none
def mod (i j : Int) : Option Int := if 0 < j then some (i % j) else none
def fdiv (i j : Int) : Option Int := if 0 < j ∧ j < 2 ^ 200 then some (i / j) else none
def guardO (c : Bool) : Option Unit := if c = true then some () else none
def smallI (i : Int) : Bool := decide (-(2 ^ 60) ≤ i) && decide (i < 2 ^ 60)
/-- range(lo, hi) -/
def rng (lo hi : Int) : List Int := (List.range (hi - lo).toNat).map fun (k : Nat) => lo + (k : Int)
/-- range(lo, hi, -1) -/
def rngDown (lo hi : Int) : List Int := (List.range (lo - hi).toNat).map fun (k : Nat) => lo - (k : Int)
/-- a for that runs through -/
def forN {α σ : Type} (f : σ → α → Option σ) : σ → List α → Option σ
  | s, [] => some s
  | s, x :: xs => (f s x).bind fun s' => forN f s' xs
/-- a for that may return (inl) -/
def forR {α σ ρ : Type} (f : σ → α → Option (ρ ⊕ σ)) : σ → List α → Option (ρ ⊕ σ)
  | s, [] => some (.inr s)
  | s, x :: xs => (f s x).bind fun
    | .inl r => some (.inl r)
    | .inr s' => forR f s' xs
/-- a for that may break (inl) -/
def forB {α σ : Type} (f : σ → α → Option (σ ⊕ σ)) : σ → List α → Option σ
  | s, [] => some s
  | s, x :: xs => (f s x).bind fun
    | .inl s' => some s'
    | .inr s' => forB f s' xs
/-- a comprehension: none of the inner option is an item left out; the state is what the items' making changes -/
def comp {α β σ : Type} (f : σ → α → Option (Option β × σ)) : σ → List α → Option (List β × σ)
  | s, [] => some ([], s)
  | s, x :: xs => (f s x).bind fun p => (comp f p.2 xs).bind fun q => some ((match p.1 with | some y => y :: q.1 | none => q.1), q.2)
/-- a comprehension that changes nothing -/
def comp0 {α β : Type} (f : α → Option (Option β)) : List α → Option (List β)
  | [] => some []
  | x :: xs => (f x).bind fun p => (comp0 f xs).bind fun q => some (match p with | some y => y :: q | none => q)
def whileN {σ : Type} (c : σ → Option Bool) (b : σ → Option σ) : Nat → σ → Option σ
  | 0, _ => none
  | n + 1, s => (c s).bind fun t => if t = true then (b s).bind fun s' => whileN c b n s' else some s
def whileR {σ ρ : Type} (c : σ → Option Bool) (b : σ → Option (ρ ⊕ σ)) : Nat → σ → Option (ρ ⊕ σ)
  | 0, _ => none
  | n + 1, s => (c s).bind fun t => if t = true then (b s).bind fun
      | .inl r => some (.inl r)
      | .inr s' => whileR c b n s'
    else some (.inr s)
theorem bnd {α β : Type} {m : Option α} {f : α → Option β} {r : β} (h : m.bind f = some r) : ∃ x, m = some x ∧ f x = some r := by
  cases m with
  | none => cases h
  | some x => exact ⟨x, rfl, h⟩
theorem letE {α β : Type} {e : α} {f : α → Option β} {r : Option β} (h : pyLet e f = r) : ∃ x, e = x ∧ f x = r := ⟨e, rfl, h⟩
theorem ifT {α : Type} {b : Bool} {x y : Option α} {r : Option α} (hb : b = true) (h : (if b = true then x else y) = r) : x = r := by
  rw [if_pos hb] at h; exact h
theorem ifF {α : Type} {b : Bool} {x y : Option α} {r : Option α} (hb : b = false) (h : (if b = true then x else y) = r) : y = r := by
  rw [hb, if_neg Bool.false_ne_true] at h; exact h
end Mi
namespace Mi
def rngO (lo hi : Int) : Option (List Int) := if (-(2 ^ 60) ≤ lo ∧ lo < 2 ^ 60) ∧ (-(2 ^ 60) ≤ hi ∧ hi < 2 ^ 60) then some (rng lo hi) else none
def rngDownO (lo hi : Int) : Option (List Int) := if (-(2 ^ 60) ≤ lo ∧ lo < 2 ^ 60) ∧ (-(2 ^ 60) ≤ hi ∧ hi < 2 ^ 60) then some (rngDown lo hi) else none
theorem forN_go {α σ : Type} {f : σ → α → Option σ} {s e : σ} {xs : List α} {i : Nat} {x : α} (h : forN f s (xs.drop i) = some e) (hx : xs[i]? = some x) : ∃ s', f s x = some s' ∧ forN f s' (xs.drop (i + 1)) = some e := by
  have hi : i < xs.length := (List.getElem?_eq_some_iff.mp hx).1
  have e1 : xs.drop i = x :: xs.drop (i + 1) := by
    rw [List.drop_eq_getElem_cons hi]
    congr 1
    exact (List.getElem?_eq_some_iff.mp hx).2
  rw [e1] at h
  exact bnd h
theorem forN_end {α σ : Type} {f : σ → α → Option σ} {s e : σ} {xs : List α} (h : forN f s (xs.drop xs.length) = some e) : s = e := by
  rw [List.drop_length] at h
  exact Option.some.inj h
theorem forR_go {α σ ρ : Type} {f : σ → α → Option (ρ ⊕ σ)} {s : σ} {e : ρ ⊕ σ} {xs : List α} {i : Nat} {x : α} (h : forR f s (xs.drop i) = some e) (hx : xs[i]? = some x) :
    ∃ o, f s x = some o ∧ ((∃ r, o = .inl r ∧ e = .inl r) ∨ ∃ s', o = .inr s' ∧ forR f s' (xs.drop (i + 1)) = some e) := by
  have hi : i < xs.length := (List.getElem?_eq_some_iff.mp hx).1
  have e1 : xs.drop i = x :: xs.drop (i + 1) := by
    rw [List.drop_eq_getElem_cons hi]
    congr 1
    exact (List.getElem?_eq_some_iff.mp hx).2
  rw [e1] at h
  obtain ⟨o, h1, h2⟩ := bnd h
  refine ⟨o, h1, ?_⟩
  cases o with
  | inl r => exact .inl ⟨r, rfl, (Option.some.inj h2).symm⟩
  | inr s' => exact .inr ⟨s', rfl, h2⟩
theorem forR_end {α σ ρ : Type} {f : σ → α → Option (ρ ⊕ σ)} {s : σ} {e : ρ ⊕ σ} {xs : List α} (h : forR f s (xs.drop xs.length) = some e) : e = .inr s := by
  rw [List.drop_length] at h
  exact (Option.some.inj h).symm
theorem forB_go {α σ : Type} {f : σ → α → Option (σ ⊕ σ)} {s e : σ} {xs : List α} {i : Nat} {x : α} (h : forB f s (xs.drop i) = some e) (hx : xs[i]? = some x) :
    ∃ o, f s x = some o ∧ ((o = .inl e) ∨ ∃ s', o = .inr s' ∧ forB f s' (xs.drop (i + 1)) = some e) := by
  have hi : i < xs.length := (List.getElem?_eq_some_iff.mp hx).1
  have e1 : xs.drop i = x :: xs.drop (i + 1) := by
    rw [List.drop_eq_getElem_cons hi]
    congr 1
    exact (List.getElem?_eq_some_iff.mp hx).2
  rw [e1] at h
  obtain ⟨o, h1, h2⟩ := bnd h
  refine ⟨o, h1, ?_⟩
  cases o with
  | inl r => exact .inl (by rw [Option.some.inj h2])
  | inr s' => exact .inr ⟨s', rfl, h2⟩
theorem forB_end {α σ : Type} {f : σ → α → Option (σ ⊕ σ)} {s e : σ} {xs : List α} (h : forB f s (xs.drop xs.length) = some e) : s = e := by
  rw [List.drop_length] at h
  exact Option.some.inj h
end Mi
namespace Mi
def orR {ρ σ : Type} (o : ρ ⊕ σ) (k : σ → Option ρ) : Option ρ := match o with
  | .inl r => some r
  | .inr s => k s
def orL {ρ σ τ : Type} (o : ρ ⊕ σ) (k : σ → Option (ρ ⊕ τ)) : Option (ρ ⊕ τ) := match o with
  | .inl r => some (.inl r)
  | .inr s => k s
theorem orR_inl {ρ σ : Type} {r q : ρ} {k : σ → Option ρ} (h : orR (.inl r) k = some q) : some r = some q := h
theorem orR_inr {ρ σ : Type} {s : σ} {q : ρ} {k : σ → Option ρ} (h : orR (.inr s) k = some q) : k s = some q := h
theorem orL_inl {ρ σ τ : Type} {r : ρ} {q : ρ ⊕ τ} {k : σ → Option (ρ ⊕ τ)} (h : orL (.inl r) k = some q) : some (.inl r) = some q := h
theorem orL_inr {ρ σ τ : Type} {s : σ} {q : ρ ⊕ τ} {k : σ → Option (ρ ⊕ τ)} (h : orL (.inr s) k = some q) : k s = some q := h
theorem or_inl {ρ σ : Type} {r : ρ} {e : ρ ⊕ σ} {P : σ → Prop} (h : (∃ r', (Sum.inl r : ρ ⊕ σ) = .inl r' ∧ e = .inl r') ∨ ∃ s', (Sum.inl r : ρ ⊕ σ) = .inr s' ∧ P s') : e = .inl r := by
  rcases h with ⟨r', h1, h2⟩ | ⟨s', h1, _⟩
  · cases h1; exact h2
  · cases h1
theorem or_inr {ρ σ : Type} {s : σ} {e : ρ ⊕ σ} {P : σ → Prop} (h : (∃ r', (Sum.inr s : ρ ⊕ σ) = .inl r' ∧ e = .inl r') ∨ ∃ s', (Sum.inr s : ρ ⊕ σ) = .inr s' ∧ P s') : P s := by
  rcases h with ⟨r', h1, h2⟩ | ⟨s', h1, h2⟩
  · cases h1
  · cases h1; exact h2
end Mi
namespace Mi
def shl (i j : Int) : Option Int := if 0 ≤ j ∧ j ≤ 1000 ∧ -(2 ^ 64) < i ∧ i < 2 ^ 64 then some (i * 2 ^ j.toNat) else none
def shr (i j : Int) : Option Int := if 0 ≤ j then some (i / 2 ^ j.toNat) else none
def sortI (xs : List Int) : List Int := xs.mergeSort fun a b => decide (a ≤ b)
def sadd (xs : List Int) (k : Int) : Option (List Int) := if xs.length < 4000 then some (if xs.contains k = true then xs else xs ++ [k]) else none
def popL {α : Type} (xs : List α) : Option (α × List α) := (xs[xs.length - 1]?).bind fun y => some (y, xs.dropLast)
def popAt {α : Type} (xs : List α) (i : Int) : Option (α × List α) := (ixN xs.length i).bind fun j => (xs[j]?).bind fun y => some (y, xs.eraseIdx j)
def lMin (xs : List Int) : Option Int := xs.head?.map fun x => xs.foldl min x
def lMax (xs : List Int) : Option Int := xs.head?.map fun x => xs.foldl max x
/-- enumerate -/
def enumF {α : Type} : Int → List α → List (Int × α)
  | _, [] => []
  | k, x :: xs => (k, x) :: enumF (k + 1) xs
end Mi
namespace Mi
/-! ### texts: lists of code points -/
def sLen (s : List Nat) : Option Int := if s.length ≤ big then some (s.length : Int) else none
def sAt (s : List Nat) (i : Int) : Option (List Nat) := if s.length ≤ big then (at_ s i).map fun c => [c] else none
def sCut (s : List Nat) (lo hi : Option Int) : Option (List Nat) := if s.length ≤ big then some (cut s lo hi) else none
def sCat (a b : List Nat) : Option (List Nat) := if a.length + b.length ≤ big then some (a ++ b) else none
def sIn (a s : List Nat) : Option Bool := match a with
  | [c] => some (s.contains c)
  | _ => none
def joinL (sep : List Nat) : List (List Nat) → List Nat
  | [] => []
  | [p] => p
  | p :: q :: r => p ++ (sep ++ joinL sep (q :: r))
def sJoin (sep : List Nat) (xs : List (List Nat)) : Option (List Nat) := if (xs.map (·.length)).sum + xs.length * sep.length ≤ big then some (joinL sep xs) else none
def signs (s : List Nat) : List (List Nat) := s.map fun c => [c]
def okS (s : List Nat) : Bool := s.all fun c => decide (c < 1114112)
def bI (b : Bool) : Int := if b = true then 1 else 0
end Mi
namespace Mi
/-- xs[i].append(x) -/
def appIn {α : Type} (xs : List (List α)) (i : Int) (x : α) : Option (List (List α)) := (ixN xs.length i).bind fun j => (xs[j]?).bind fun row => (app row x).bind fun ys => some (xs.set j ys)
def leP (a b : Int × Int) : Bool := decide (a.1 < b.1 ∨ (a.1 = b.1 ∧ a.2 ≤ b.2))
def sortP (xs : List (Int × Int)) : List (Int × Int) := xs.mergeSort leP
def saddP (xs : List (Int × Int)) (k : Int × Int) : Option (List (Int × Int)) := if xs.length < 70 then some (if xs.contains k = true then xs else xs ++ [k]) else none
def repL {α : Type} (xs : List α) (k : Int) : Option (List α) := if -(2 ^ 60) ≤ k ∧ k < 2 ^ 60 ∧ xs.length * k.toNat ≤ big then some (List.replicate k.toNat xs).flatten else none
def lIdx {α : Type} [BEq α] (xs : List α) (x : α) : Option Int := if xs.contains x = true then some ((xs.idxOf x : Nat) : Int) else none
def rngL (lo hi : Int) : Option (List Int) := if (-(2 ^ 60) ≤ lo ∧ lo < 2 ^ 60) ∧ (-(2 ^ 60) ≤ hi ∧ hi < 2 ^ 60) ∧ (hi - lo).toNat ≤ 1000000 then some (rng lo hi) else none
end Mi

namespace Mi
def m_is_zone_0_b1 (d1 : Int) (s9 : (List Int)) (x12 : Int) : Option (Bool ⊕ (List Int)) :=
  if ((decide (x12 < (0 : Int))) || ((decide (d1 ≤ x12)) || (s9.contains x12))) = true then
  (some (.inl false))
  else
  (sadd s9 x12).bind fun x19 =>
  some (.inr x19)
def m_is_zone_0 (d0 : (List Int)) (d1 : Int) : Option Bool :=
  (forR (m_is_zone_0_b1 d1) ([] : List Int) d0).bind fun e8 => orR e8 fun s9 =>
  some true
def m_is_zone_1_b1 (d1 : Int) (s8 : (List Int)) (x11 : Int) : Option (Bool ⊕ (List Int)) :=
  if ((decide (x11 < (0 : Int))) || ((decide (d1 ≤ x11)) || (s8.contains x11))) = true then
  (some (.inl false))
  else
  (sadd s8 x11).bind fun x18 =>
  some (.inr x18)
def m_is_zone_1 (d0 : (List Int)) (d1 : Int) : Option Bool :=
  (forR (m_is_zone_1_b1 d1) ([] : List Int) d0).bind fun e7 => orR e7 fun s8 =>
  some true
def m_good_numbers_b1 (d2 : Int) (s3 : Unit) (x6 : Int) : Option (Bool ⊕ Unit) :=
  if ((decide (x6 < (0 : Int))) || (decide (d2 < x6))) = true then
  (some (.inl false))
  else
  some (.inr ())
def m_good_numbers (d0 : (List Int)) (d1 : Int) (d2 : Int) : Option Bool :=
  if ((decide ((d0.length : Int) < (1 : Int))) || (decide (d1 < (d0.length : Int)))) = true then
  (some false)
  else
  (forR (m_good_numbers_b1 d2) () d0).bind fun e2 => orR e2 fun s3 =>
  some true
def m_good_depths (d0 : (List Int)) : Option Bool :=
  (m_good_numbers d0 (12 : Int) (99 : Int)).bind fun q1 =>
  some q1
def m_good_lanes_b1 (d1 : Int) (s9 : (List (Int × Int))) (x15 : (Int × Int)) : Option (Bool ⊕ (List (Int × Int))) :=
  pyLet ((min x15.1 x15.2) : Int) fun low24 =>
  pyLet ((max x15.1 x15.2) : Int) fun high25 =>
  ( if (decide (low24 < (0 : Int))) = true then some true else  if (decide (d1 ≤ high25)) = true then some true else  if (decide (low24 = high25)) = true then some true else some (s9.contains (low24, high25)) : Option Bool).bind fun b26 =>
  if b26 = true then
  (some (.inl false))
  else
  (saddP s9 (low24, high25)).bind fun x37 =>
  some (.inr x37)
def m_good_lanes (d0 : (List (Int × Int))) (d1 : Int) : Option Bool :=
  (forR (m_good_lanes_b1 d1) ([] : List (Int × Int)) d0).bind fun e8 => orR e8 fun s9 =>
  some true
def m_good_tide (d0 : (List Int)) : Option Bool :=
  (m_good_numbers d0 (12 : Int) (20 : Int)).bind fun q1 =>
  some q1
def m_good_harbours (d0 : (List Int)) (d1 : Int) : Option Bool :=
  (m_is_zone_0 d0 d1).bind fun q1 =>
  some q1
def m_ordered_lanes_b1  (s2 : (List (Int × Int))) (x11 : (Int × Int)) : Option (List (Int × Int)) :=
  (app s2 ((min x11.1 x11.2), (max x11.1 x11.2))).bind fun x27 =>
  some x27
def m_ordered_lanes (d0 : (List (Int × Int))) : Option (List (Int × Int)) :=
  (forN (m_ordered_lanes_b1) ([] : (List (Int × Int))) d0).bind fun s2 =>
  some (Mi.sortP s2)
def m_joined_places_b1  (s3 : (List (List Int))) (x12 : Int) : Option (List (List Int)) :=
  (app s3 ([] : (List Int))).bind fun x26 =>
  some x26
def m_joined_places_b2  (s36 : (List (List Int))) (x44 : (Int × Int)) : Option (List (List Int)) :=
  (at_ s36 x44.1).bind fun x52 =>
  (appIn s36 x44.1 x44.2).bind fun x53 =>
  (at_ x53 x44.2).bind fun x61 =>
  (appIn x53 x44.2 x44.1).bind fun x62 =>
  some x62
def m_joined_places_b3  (s71 : (List (List Int))) (x80 : (List Int)) : Option (List (List Int)) :=
  (app s71 x80).bind fun x93 =>
  some x93
def m_joined_places (d0 : Int) (d1 : (List (Int × Int))) : Option (List (List Int)) :=
  (rngO 0 d0).bind fun g1 =>
  (forN (m_joined_places_b1) ([] : (List (List Int))) g1).bind fun s3 =>
  (forN (m_joined_places_b2) s3 d1).bind fun s36 =>
  (forN (m_joined_places_b3) ([] : (List (List Int))) s36).bind fun s71 =>
  some s71
def m_Chart_init (d1 : (List Int)) (d2 : (List (Int × Int))) (d3 : (List Int)) (d4 : (List Int)) : Option (Int × (List Int) × (List (Int × Int)) × (List Int) × (List Int) × (List (List Int))) :=
  (m_good_depths d1).bind fun q1 =>
  if (!q1) = true then
  (none)
  else
  (m_good_lanes d2 (d1.length : Int)).bind fun q4 =>
  if (!q4) = true then
  (none)
  else
  (m_good_tide d3).bind fun q7 =>
  if (!q7) = true then
  (none)
  else
  (m_good_harbours d4 (d1.length : Int)).bind fun q10 =>
  if (!q10) = true then
  (none)
  else
  (m_ordered_lanes d2).bind fun q21 =>
  (m_joined_places (d1.length : Int) q21).bind fun q51 =>
  some ((d1.length : Int), d1, q21, d3, (Mi.sortI d4), q51)
def m_Chart_water (d0 : (Int × (List Int) × (List (Int × Int)) × (List Int) × (List Int) × (List (List Int)))) (d1 : Int) (d2 : Int) : Option Int :=
  (at_ d0.2.1 d1).bind fun x5 =>
  (mod d2 (d0.2.2.2.1.length : Int)).bind fun x14 =>
  (at_ d0.2.2.2.1 x14).bind fun x15 =>
  some (x5 + x15)
def m_open_places_b1 (d0 : (Int × (List Int) × (List (Int × Int)) × (List Int) × (List Int) × (List (List Int)))) (d1 : Int) (d2 : Int) (s7 : (List Bool)) (x15 : Int) : Option (List Bool) :=
  (m_Chart_water d0 x15 d2).bind fun q22 =>
  (app s7 (decide (d1 ≤ q22))).bind fun x25 =>
  some x25
def m_open_places (d0 : (Int × (List Int) × (List (Int × Int)) × (List Int) × (List Int) × (List (List Int)))) (d1 : Int) (d2 : Int) : Option (List Bool) :=
  (rngO 0 d0.1).bind fun g5 =>
  (forN (m_open_places_b1 d0 d1 d2) ([] : (List Bool)) g5).bind fun s7 =>
  some s7
def m_Chart_neighbours (d0 : (Int × (List Int) × (List (Int × Int)) × (List Int) × (List Int) × (List (List Int)))) (d1 : Int) : Option (List Int) :=
  (at_ d0.2.2.2.2.2 d1).bind fun x5 =>
  some x5
def m_touches_b1 (d2 : (List Bool)) (s11 : (List Bool)) (x21 : Int) : Option (List Bool) :=
  (at_ d2 x21).bind fun x28 =>
  (app s11 x28).bind fun x32 =>
  some x32
def m_touches (d0 : (Int × (List Int) × (List (Int × Int)) × (List Int) × (List Int) × (List (List Int)))) (d1 : Int) (d2 : (List Bool)) : Option Bool :=
  (m_Chart_neighbours d0 d1).bind fun q1 =>
  (forN (m_touches_b1 d2) ([] : (List Bool)) q1).bind fun s11 =>
  some (s11.any id)
def m_newly_reached_b1 (d1 : (List (Option Int))) (d2 : (List Bool)) (s7 : (List Bool)) (x17 : Int) : Option (List Bool) :=
  (at_ d2 x17).bind fun x24 =>
  (if x24 = true then (at_ d1 x17).bind fun x29 => some x29.isSome else some false).bind fun b33 =>
  (app s7 b33).bind fun x34 =>
  some x34
def m_newly_reached_b2 (d0 : (Int × (List Int) × (List (Int × Int)) × (List Int) × (List Int) × (List (List Int)))) (d1 : (List (Option Int))) (d2 : (List Bool)) (s7 : (List Bool)) (s43 : (List Int)) (x54 : Int) : Option (List Int) :=
  ((at_ d2 x54).bind fun x62 => if x62 = true then (at_ d1 x54).bind fun x66 => if x66.isNone = true then (m_touches d0 x54 s7).bind fun q70 => some q70 else some false else some false : Option Bool).bind fun b61 =>
  if b61 = true then ((app s43 x54).bind fun x73 =>
  some x73) else (some s43)
def m_newly_reached (d0 : (Int × (List Int) × (List (Int × Int)) × (List Int) × (List Int) × (List (List Int)))) (d1 : (List (Option Int))) (d2 : (List Bool)) : Option (List Int) :=
  (rngO 0 d0.1).bind fun g5 =>
  (forN (m_newly_reached_b1 d1 d2) ([] : (List Bool)) g5).bind fun s7 =>
  (rngO 0 d0.1).bind fun g41 =>
  (forN (m_newly_reached_b2 d0 d1 d2 s7) ([] : (List Int)) g41).bind fun s43 =>
  some s43
def m_arrivals_b2 (x29 : Int) (s50 : (List (Option Int))) (x53 : Int) : Option (List (Option Int)) :=
  (setAt s50 x53 (some (x29 + (1 : Int)))).bind fun x57 =>
  some x57
def m_arrivals_b1 (d0 : (Int × (List Int) × (List (Int × Int)) × (List Int) × (List Int) × (List (List Int)))) (d2 : Int) (s24 : (List (Option Int))) (x29 : Int) : Option (List (Option Int)) :=
  (m_open_places d0 d2 x29).bind fun q31 =>
  (m_newly_reached d0 s24 q31).bind fun q40 =>
  (forN (m_arrivals_b2 x29) s24 q40).bind fun s50 =>
  some s50
def m_arrivals (d0 : (Int × (List Int) × (List (Int × Int)) × (List Int) × (List Int) × (List (List Int)))) (d1 : Int) (d2 : Int) (d3 : Int) (d4 : Int) : Option (List (Option Int)) :=
  (repL [(none : (Option Int))] d0.1).bind fun x11 =>
  (setAt x11 d1 (some d3)).bind fun x19 =>
  (rngO d3 d4).bind fun g22 =>
  (forN (m_arrivals_b1 d0 d2) x19 g22).bind fun s24 =>
  some s24
def m_l_hand (d0 : (List Int)) (d1 : Int) : Option (List Int) :=
  pyLet ((0 : Int) : Int) fun cell1 =>
  (if (decide (d1 < (d0.length : Int))) = true then ((at_ d0 d1).bind fun x3 =>
  pyLet (x3 : Int) fun cell4 =>
  some cell4) else (some cell1) : Option Int).bind fun s2 =>
  (if (decide (s2 < (0 : Int))) = true then (pyLet (((1 : Int) - ((2 : Int) * s2)) : Int) fun cell6 =>
  some cell6) else (some s2) : Option Int).bind fun s5 =>
  pyLet ((0 : Int) : Int) fun rest7 =>
  (if (decide (((10 : Int) ^ 18) ≤ s5)) = true then (pyLet (s5 : Int) fun rest9 =>
  some rest9) else (some rest7) : Option Int).bind fun s8 =>
  some [s8, (((s5 + ((7919 : Int) * d1)) + (13 : Int)) % (2147483647 : Int)), (0 : Int)]
def m_l_pick (d0 : (List Int)) (d1 : Int) : Option (Int × (List Int)) :=
  if (decide (d1 < (1 : Int))) = true then
  (some ((0 : Int), d0))
  else
  (at_ d0 (0 : Int)).bind fun x1 =>
  if (decide ((0 : Int) < x1)) = true then
  ((at_ d0 (0 : Int)).bind fun x2 =>
  (mod x2 d1).bind fun x3 =>
  pyLet (x3 : Int) fun digit4 =>
  (at_ d0 (0 : Int)).bind fun x5 =>
  (fdiv x5 d1).bind fun x6 =>
  (setAt d0 (0 : Int) x6).bind fun x7 =>
  some (digit4, x7))
  else
  (at_ d0 (2 : Int)).bind fun x10 =>
  (setAt d0 (2 : Int) (x10 + (1 : Int))).bind fun x11 =>
  (at_ x11 (1 : Int)).bind fun x14 =>
  (at_ x11 (2 : Int)).bind fun x15 =>
  pyLet ((((x14 + ((7919 : Int) * x15)) + (13 : Int)) % (2147483647 : Int)) : Int) fun mixed16 =>
  (mul mixed16 (mixed16 + (48271 : Int))).bind fun x17 =>
  pyLet ((x17 % (2147483629 : Int)) : Int) fun mixed18 =>
  (mul mixed18 (mixed18 + (69621 : Int))).bind fun x19 =>
  (at_ x11 (2 : Int)).bind fun x20 =>
  pyLet (((x19 + ((31 : Int) * x20)) % (2147483647 : Int)) : Int) fun mixed21 =>
  (mod (mixed21 / (9 : Int)) d1).bind fun x22 =>
  some (x22, x11)
def m_l_int_0 (d0 : Int) : Option Bool :=
  some (true && (!false))
def m_l_int_1 (d0 : (Option Int)) : Option Bool :=
  some ((d0.isSome && true) && (!(d0.isSome && false)))
def m_l_some_b1 (d2 : Int) (s10 : ((List Int) × (List Int))) (x13 : Int) : Option ((List Int) × (List Int)) :=
  ((m_l_pick s10.1 d2).bind fun q16 =>
  if (decide (q16.1 = (0 : Int))) = true then ((app s10.2 x13).bind fun x19 =>
  some (q16.2, x19)) else (some (q16.2, s10.2)) : Option ((List Int) × (List Int))).bind fun s15 =>
  some (s15.1, s15.2)
def m_l_some (d0 : (List Int)) (d1 : Int) (d2 : Int) : Option ((List Int) × (List Int)) :=
  (rngO 0 d1).bind fun g8 =>
  (forN (m_l_some_b1 d2) (d0, ([] : (List Int))) g8).bind fun s10 =>
  some (s10.2, s10.1)
def m_l_sea_b2 (x52 : Int) (s62 : ((List Int) × (List (Int × Int)))) (x65 : Int) : Option ((List Int) × (List (Int × Int))) :=
  ((m_l_pick s62.1 (4 : Int)).bind fun q68 =>
  if (decide ((0 : Int) < q68.1)) = true then ((app s62.2 (x65, x52)).bind fun x76 =>
  some (q68.2, x76)) else (some (q68.2, s62.2)) : Option ((List Int) × (List (Int × Int)))).bind fun s67 =>
  some (s67.1, s67.2)
def m_l_sea_b1 (x15 : Int) (s48 : ((List Int) × (List Int) × (List (Int × Int)))) (x52 : Int) : Option ((List Int) × (List Int) × (List (Int × Int))) :=
  (m_l_pick s48.1 x15).bind fun q54 =>
  (app s48.2.1 q54.1).bind fun x57 =>
  (rngO 0 x52).bind fun g60 =>
  (forN (m_l_sea_b2 x52) (q54.2, s48.2.2) g60).bind fun s62 =>
  some (s62.1, x57, s62.2)
def m_l_sea_b3 (x28 : Int) (s93 : ((List Int) × (List Int))) (x96 : Int) : Option ((List Int) × (List Int)) :=
  (m_l_pick s93.1 x28).bind fun q98 =>
  (app s93.2 q98.1).bind fun x101 =>
  some (q98.2, x101)
def m_l_sea (d0 : (List Int)) (d1 : Int) : Option (((List Int) × (List (Int × Int)) × (List Int) × (List Int)) × (List Int)) :=
  (m_l_pick d0 d1).bind fun q1 =>
  pyLet (((1 : Int) + q1.1) : Int) fun size4 =>
  (m_l_pick q1.2 (3 : Int)).bind fun q12 =>
  (at_ [(2 : Int), (6 : Int), (100 : Int)] q12.1).bind fun x15 =>
  (m_l_pick q12.2 (3 : Int)).bind fun q25 =>
  (at_ [(1 : Int), (4 : Int), (21 : Int)] q25.1).bind fun x28 =>
  (rngO 0 size4).bind fun g46 =>
  (forN (m_l_sea_b1 x15) (q25.2, ([] : (List Int)), ([] : (List (Int × Int)))) g46).bind fun s48 =>
  (m_l_pick s48.1 (3 : Int)).bind fun q88 =>
  (rngO 0 q88.1).bind fun g91 =>
  (forN (m_l_sea_b3 x28) (q88.2, [(0 : Int)]) g91).bind fun s93 =>
  (m_l_some s93.1 size4 (4 : Int)).bind fun q104 =>
  some ((s48.2.1, s48.2.2, s93.2, q104.1), q104.2)
def m_l_chart (d0 : ((List Int) × (List (Int × Int)) × (List Int) × (List Int))) : Option (Int × (List Int) × (List (Int × Int)) × (List Int) × (List Int) × (List (List Int))) :=
  (m_Chart_init (d0.1, d0.2.1, d0.2.2.1, d0.2.2.2).1 (d0.1, d0.2.1, d0.2.2.1, d0.2.2.2).2.1 (d0.1, d0.2.1, d0.2.2.1, d0.2.2.2).2.2.1 (d0.1, d0.2.1, d0.2.2.1, d0.2.2.2).2.2.2).bind fun q122 =>
  some q122
def m_l_touches_b1 (d1 : (List Int)) (d2 : Int) (s8 : Unit) (x11 : (Int × Int)) : Option (Bool ⊕ Unit) :=
  if ((decide (x11.1 = d2)) && (d1.contains x11.2)) = true then
  (some (.inl true))
  else
  if ((decide (x11.2 = d2)) && (d1.contains x11.1)) = true then
  (some (.inl true))
  else
  some (.inr ())
def m_l_touches (d0 : ((List Int) × (List (Int × Int)) × (List Int) × (List Int))) (d1 : (List Int)) (d2 : Int) : Option Bool :=
  (forR (m_l_touches_b1 d1 d2) () d0.2.1).bind fun e7 => orR e7 fun s8 =>
  some false
def m_l_wide (d0 : (List Int)) : Option (((List Int) × (List (Int × Int)) × (List Int) × (List Int)) × (List Int)) :=
  (m_l_pick d0 (4 : Int)).bind fun q8 =>
  (at_ [(6 : Int), (6 : Int), (6 : Int), (12 : Int)] q8.1).bind fun x11 =>
  (m_l_sea q8.2 x11).bind fun q14 =>
  some (q14.1, q14.2)
def m_l_flows_b1  (s9 : ((List Int) × (List Int))) (x19 : Int) : Option ((List Int) × (List Int)) :=
  (m_l_pick s9.2 (21 : Int)).bind fun q26 =>
  (app s9.1 q26.1).bind fun x29 =>
  some (x29, q26.2)
def m_l_flows (d0 : (List Int)) (d1 : ((List Int) × (List (Int × Int)) × (List Int) × (List Int))) : Option ((List Int) × (List Int)) :=
  (m_l_pick d0 (2 : Int)).bind fun q1 =>
  if (decide (q1.1 = (0 : Int))) = true then
  ((m_l_pick q1.2 (12 : Int)).bind fun q4 =>
  (rngO 0 ((1 : Int) + q4.1)).bind fun g7 =>
  (forN (m_l_flows_b1) (([] : (List Int)), q4.2) g7).bind fun s9 =>
  some (s9.1, s9.2))
  else
  (cat (Mi.cut d1.2.2.1 (some (1 : Int)) none) (Mi.cut d1.2.2.1 none (some (1 : Int)))).bind fun x66 =>
  some (x66, q1.2)
def m_l_thinned_b1 (share4 : Int) (s6 : ((List (Int × Int)) × (List Int))) (x16 : (Int × Int)) : Option ((List (Int × Int)) × (List Int)) :=
  (m_l_pick s6.2 share4).bind fun q23 =>
  if (decide (q23.1 = (0 : Int))) = true then ((app s6.1 x16).bind fun x26 =>
  some (x26, q23.2)) else (some (s6.1, q23.2))
def m_l_thinned (d0 : (List Int)) (d1 : (List (Int × Int))) (d2 : Int) : Option ((List (Int × Int)) × (List Int)) :=
  (m_l_pick d0 d2).bind fun q1 =>
  pyLet (((1 : Int) + q1.1) : Int) fun share4 =>
  (forN (m_l_thinned_b1 share4) (([] : (List (Int × Int))), q1.2) d1).bind fun s6 =>
  some (s6.1, s6.2)
def m_l_stirred_b1  (s20 : ((List Int) × (List Int) × (List Int))) (x23 : Int) : Option ((List Int) × (List Int) × (List Int)) :=
  (m_l_pick s20.1 (s20.2.1.length : Int)).bind fun q25 =>
  (guardO (decide (s20.2.1.length ≤ big))).bind fun z28 =>
  (popAt s20.2.1 q25.1).bind fun x29 =>
  (app s20.2.2 x29.1).bind fun x34 =>
  some (q25.2, x29.2, x34)
def m_l_stirred (d0 : (List Int)) (d1 : (List Int)) : Option ((List Int) × (List Int)) :=
  (rngO 0 (d1.length : Int)).bind fun g18 =>
  (forN (m_l_stirred_b1) (d0, d1, ([] : (List Int))) g18).bind fun s20 =>
  some (s20.2.2, s20.1)
def m_l_strung_b1 (q13 : ((List Int) × (List Int))) (s25 : (List (Int × Int))) (x36 : Int) : Option (List (Int × Int)) :=
  (at_ q13.1 x36).bind fun x43 =>
  (at_ q13.1 (x36 + (1 : Int))).bind fun x44 =>
  (at_ q13.1 x36).bind fun x45 =>
  (at_ q13.1 (x36 + (1 : Int))).bind fun x46 =>
  (app s25 ((min x43 x44), (max x45 x46))).bind fun x52 =>
  some x52
def m_l_strung (d0 : (List Int)) (d1 : (List (Int × Int))) (d2 : Int) : Option ((List (Int × Int)) × (List Int)) :=
  (m_l_pick d0 (8 : Int)).bind fun q1 =>
  if (!(decide (q1.1 = (1 : Int)))) = true then
  (some (d1, q1.2))
  else
  (rngL 0 d2).bind fun g4 =>
  (m_l_stirred q1.2 g4).bind fun q13 =>
  (rngO 0 (d2 - (1 : Int))).bind fun g23 =>
  (forN (m_l_strung_b1 q13) ([] : (List (Int × Int))) g23).bind fun s25 =>
  some (s25, q13.2)
def m_l_state (d0 : (Int × (List Int) × (List (Int × Int)) × (List Int) × (List Int) × (List (List Int)))) : Option (Int × (List Int) × (List (Int × Int)) × (List Int) × (List Int)) :=
  some (d0.1, d0.2.1, d0.2.2.1, d0.2.2.2.1, d0.2.2.2.2.1)
def m_l_wet_b1 (d0 : ((List Int) × (List (Int × Int)) × (List Int) × (List Int))) (d1 : Int) (d2 : Int) (s8 : (List Bool)) (x18 : Int) : Option (List Bool) :=
  (mod d2 (d0.2.2.1.length : Int)).bind fun x39 =>
  (at_ d0.2.2.1 x39).bind fun x40 =>
  (app s8 (decide (d1 ≤ (x18 + x40)))).bind fun x41 =>
  some x41
def m_l_wet (d0 : ((List Int) × (List (Int × Int)) × (List Int) × (List Int))) (d1 : Int) (d2 : Int) : Option (List Bool) :=
  (forN (m_l_wet_b1 d0 d1 d2) ([] : (List Bool)) d0.1).bind fun s8 =>
  some s8
def m_l_hours_b1  (s10 : (List (Option Int))) (x19 : Int) : Option (List (Option Int)) :=
  (app s10 (none : (Option Int))).bind fun x26 =>
  some x26
def m_l_hours_b3 (s34 : (List (Option Int))) (q42 : (List Bool)) (s54 : (List Int)) (x65 : Int) : Option (List Int) :=
  (at_ q42 x65).bind fun x72 =>
  (if x72 = true then (at_ s34 x65).bind fun x77 => some x77.isSome else some false).bind fun b81 =>
  if b81 = true then ((app s54 x65).bind fun x82 =>
  some x82) else (some s54)
def m_l_hours_b4 (d0 : ((List Int) × (List (Int × Int)) × (List Int) × (List Int))) (x40 : Int) (q42 : (List Bool)) (s54 : (List Int)) (s87 : (List (Option Int))) (x90 : Int) : Option (List (Option Int)) :=
  (((at_ q42 x90).bind fun x94 => if x94 = true then (at_ s87 x90).bind fun x98 => if x98.isNone = true then (m_l_touches d0 s54 x90).bind fun q102 => some q102 else some false else some false : Option Bool).bind fun b93 =>
  if b93 = true then ((setAt s87 x90 (some (x40 + (1 : Int)))).bind fun x105 =>
  some x105) else (some s87) : Option (List (Option Int))).bind fun s92 =>
  some s92
def m_l_hours_b2 (d0 : ((List Int) × (List (Int × Int)) × (List Int) × (List Int))) (d2 : Int) (size7 : Int) (s34 : (List (Option Int))) (x40 : Int) : Option (List (Option Int)) :=
  (m_l_wet d0 d2 x40).bind fun q42 =>
  (rngO 0 size7).bind fun g52 =>
  (forN (m_l_hours_b3 s34 q42) ([] : (List Int)) g52).bind fun s54 =>
  (rngO 0 size7).bind fun g85 =>
  (forN (m_l_hours_b4 d0 x40 q42 s54) s34 g85).bind fun s87 =>
  some s87
def m_l_hours (d0 : ((List Int) × (List (Int × Int)) × (List Int) × (List Int))) (d1 : Int) (d2 : Int) (d3 : Int) (d4 : Int) : Option (List (Option Int)) :=
  pyLet ((d0.1.length : Int) : Int) fun size7 =>
  (rngO 0 size7).bind fun g8 =>
  (forN (m_l_hours_b1) ([] : (List (Option Int))) g8).bind fun s10 =>
  (setAt s10 d1 (some d3)).bind fun x29 =>
  (rngO d3 d4).bind fun g32 =>
  (forN (m_l_hours_b2 d0 d2 size7) x29 g32).bind fun s34 =>
  some s34
def m_l_same_b1 (d0 : (List (Option Int))) (d1 : (List (Option Int))) (s4 : Unit) (x7 : Int) : Option (Bool ⊕ Unit) :=
  (at_ d1 x7).bind fun x10 =>
  (if x10.isNone = true then (at_ d0 x7).bind fun x15 => some x15.isSome else some false).bind fun b19 =>
  if b19 = true then
  (some (.inl false))
  else
  ((at_ d1 x7).bind fun x21 => if x21.isSome = true then ((at_ d0 x7).bind fun x26 => (m_l_int_1 x26).bind fun q30 => if (!q30) = true then some true else (at_ d0 x7).bind fun x33 => (at_ d1 x7).bind fun x37 => (x33).bind fun x41 => (x37).bind fun x42 => some (!(decide (x41 = x42))) : Option Bool).bind fun b25 => some b25 else some false : Option Bool).bind fun b20 =>
  if b20 = true then
  (some (.inl false))
  else
  some (.inr ())
def m_l_same (d0 : (List (Option Int))) (d1 : (List (Option Int))) : Option Bool :=
  if ((!true) || (!(decide ((d0.length : Int) = (d1.length : Int))))) = true then
  (some false)
  else
  (rngO 0 (d1.length : Int)).bind fun g2 =>
  (forR (m_l_same_b1 d0 d1) () g2).bind fun e3 => orR e3 fun s4 =>
  some true
def m_l_left_out (d0 : (Int × (List Int) × (List (Int × Int)) × (List Int) × (List Int) × (List (List Int)))) (d1 : ((List Int) × (List (Int × Int)) × (List Int) × (List Int))) (d2 : Int) (d3 : Int) (d4 : Int) : Option Bool :=
  (m_arrivals d0 d2 (0 : Int) (0 : Int) (24 : Int)).bind fun q1 =>
  (m_l_hours d1 d2 (0 : Int) (0 : Int) (24 : Int)).bind fun q10 =>
  (m_l_same q1 q10).bind fun q20 =>
  if (!q20) = true then
  (some false)
  else
  (m_arrivals d0 d2 d3 (0 : Int) (24 : Int)).bind fun q23 =>
  (m_l_hours d1 d2 d3 (0 : Int) (24 : Int)).bind fun q32 =>
  (m_l_same q23 q32).bind fun q42 =>
  if (!q42) = true then
  (some false)
  else
  pyLet ((d4 % (25 : Int)) : Int) fun early45 =>
  (m_arrivals d0 d2 d3 early45 (24 : Int)).bind fun q46 =>
  (m_l_hours d1 d2 d3 early45 (24 : Int)).bind fun q55 =>
  (m_l_same q46 q55).bind fun q65 =>
  if (!q65) = true then
  (some false)
  else
  (m_arrivals d0 d2 d3 (0 : Int) early45).bind fun q68 =>
  (m_l_hours d1 d2 d3 (0 : Int) early45).bind fun q77 =>
  (m_l_same q68 q77).bind fun q87 =>
  some q87
def m_law (d0 : (List Int)) : Option Bool :=
  (m_l_hand d0 (0 : Int)).bind fun q1 =>
  (m_l_wide q1).bind fun q9 =>
  (m_l_hand d0 (7 : Int)).bind fun q17 =>
  pyLet ((q9.1.1.length : Int) : Int) fun size34 =>
  (m_l_hand d0 (8 : Int)).bind fun q35 =>
  (m_l_thinned q17 q9.1.2.1 (4 : Int)).bind fun q54 =>
  (m_l_strung q35 q54.1 size34).bind fun q65 =>
  (m_l_flows q54.2 q9.1).bind fun q84 =>
  (m_l_chart (q9.1.1, q65.1, q84.1, q9.1.2.2.2)).bind fun q112 =>
  (m_l_state q112).bind fun q117 =>
  (m_l_hand d0 (6 : Int)).bind fun q122 =>
  (m_l_pick q122 size34).bind fun q134 =>
  (m_l_pick q134.2 size34).bind fun q145 =>
  (at_ (q9.1.1, q65.1, q84.1, q9.1.2.2.2).1 q145.1).bind fun x148 =>
  (m_l_pick q145.2 ((q9.1.1, q65.1, q84.1, q9.1.2.2.2).2.2.1.length : Int)).bind fun q167 =>
  (at_ (q9.1.1, q65.1, q84.1, q9.1.2.2.2).2.2.1 q167.1).bind fun x170 =>
  (m_l_pick q167.2 (2 : Int)).bind fun q173 =>
  pyLet (((x148 + x170) + q173.1) : Int) fun deep176 =>
  (m_l_pick q173.2 (31 : Int)).bind fun q177 =>
  ((m_l_pick q177.2 (4 : Int)).bind fun q181 =>
  if (decide (q181.1 = (0 : Int))) = true then ((m_l_pick q181.2 (97 : Int)).bind fun q184 =>
  some (q184.2, q184.1)) else (some (q181.2, q177.1)) : Option ((List Int) × Int)).bind fun s180 =>
  (m_l_pick s180.1 (15 : Int)).bind fun q187 =>
  ((m_l_pick q187.2 (8 : Int)).bind fun q191 =>
  if (decide (q191.1 = (0 : Int))) = true then ((m_l_pick q191.2 (97 : Int)).bind fun q194 =>
  some q194.1) else (some q187.1) : Option Int).bind fun s190 =>
  pyLet ((min (96 : Int) (s180.2 + s190)) : Int) fun stop197 =>
  (m_l_hours (q9.1.1, q65.1, q84.1, q9.1.2.2.2) q134.1 deep176 s180.2 stop197).bind fun q198 =>
  (m_arrivals q112 q134.1 deep176 s180.2 stop197).bind fun q209 =>
  (m_l_same q209 q198).bind fun q221 =>
  if (!q221) = true then
  (some false)
  else
  (app q209.reverse (some (99 : Int))).bind fun x226 =>
  (m_l_left_out q112 (q9.1.1, q65.1, q84.1, q9.1.2.2.2) q134.1 deep176 s180.2).bind fun q229 =>
  if (!q229) = true then
  (some false)
  else
  (m_arrivals q112 q134.1 deep176 s180.2 stop197).bind fun q232 =>
  (m_l_same q232 q198).bind fun q245 =>
  if (!q245) = true then
  (some false)
  else
  (m_l_state q112).bind fun q248 =>
  some (decide (q248 = q117))
end Mi

namespace Mi
/-! ### draws -/
def Hd (h : List Int) : Prop := ∃ a b c : Int, h = [a, b, c] ∧ 0 ≤ a
theorem mod_ok {i j : Int} (h : 0 < j) : mod i j = some (i % j) := if_pos h
theorem fdiv_ok {i j : Int} (h : 0 < j) (h2 : j < 2 ^ 200) : fdiv i j = some (i / j) := if_pos ⟨h, h2⟩
theorem mul_okL {i j : Int} (h : -(2 ^ 64) < i) (h2 : i < 2 ^ 64) : mul i j = some (i * j) := if_pos (.inl ⟨h, h2⟩)
theorem mul_okR {i j : Int} (h : -(2 ^ 64) < j) (h2 : j < 2 ^ 64) : mul i j = some (i * j) := if_pos (.inr ⟨h, h2⟩)
theorem app_ok {α : Type} {xs : List α} {x : α} (h : xs.length < big) : app xs x = some (xs ++ [x]) := if_pos h
theorem cat_ok {α : Type} {xs ys : List α} (h : xs.length + ys.length ≤ big) : cat xs ys = some (xs ++ ys) := if_pos h
theorem rngO_ok {lo hi : Int} (h1 : -(2 ^ 60) ≤ lo) (h2 : lo < 2 ^ 60) (h3 : -(2 ^ 60) ≤ hi) (h4 : hi < 2 ^ 60) : rngO lo hi = some (rng lo hi) := if_pos ⟨⟨h1, h2⟩, h3, h4⟩
theorem rngDownO_ok {lo hi : Int} (h1 : -(2 ^ 60) ≤ lo) (h2 : lo < 2 ^ 60) (h3 : -(2 ^ 60) ≤ hi) (h4 : hi < 2 ^ 60) : rngDownO lo hi = some (rngDown lo hi) := if_pos ⟨⟨h1, h2⟩, h3, h4⟩
theorem at0 {α : Type} (a : α) (l : List α) : at_ (a :: l) 0 = some a := by
  unfold at_ ixN
  rw [if_pos (by decide), if_pos (by rw [List.length_cons]; omega)]
  rfl
theorem at_nat {α : Type} {xs : List α} {j : Nat} {x : α} (h : xs[j]? = some x) : at_ xs (j : Int) = some x := by
  have hj : j < xs.length := (List.getElem?_eq_some_iff.mp h).1
  unfold at_ ixN
  rw [if_pos (by omega), if_pos (by omega), Int.toNat_natCast]
  exact h
theorem at_int {α : Type} {xs : List α} {i : Int} {x : α} (h0 : 0 ≤ i) (h : xs[i.toNat]? = some x) : at_ xs i = some x := by
  have e : i = (i.toNat : Int) := by omega
  rw [e]; exact at_nat h
theorem at_some {α : Type} {xs : List α} {i : Int} (h0 : 0 ≤ i) (h1 : i < xs.length) : ∃ x, at_ xs i = some x ∧ xs[i.toNat]? = some x := by
  have hj : i.toNat < xs.length := by omega
  exact ⟨xs[i.toNat], at_int h0 (List.getElem?_eq_getElem hj), List.getElem?_eq_getElem hj⟩
theorem hand_ok (s : List Int) (k : Int) (hk : 0 ≤ k) : ∃ h, m_l_hand s k = some h ∧ Hd h := by
  simp only [m_l_hand, pyLet]
  have hc : ∃ c, (if decide (k < (s.length : Int)) = true then (at_ s k).bind fun x3 => some x3 else some 0 : Option Int) = some c := by
    by_cases h : k < (s.length : Int)
    · rw [if_pos (decide_eq_true h)]
      obtain ⟨x, hx, _⟩ := at_some hk h
      rw [hx]
      exact ⟨x, rfl⟩
    · rw [if_neg (by simpa using h)]
      exact ⟨0, rfl⟩
  obtain ⟨c, hc⟩ := hc
  rw [hc]
  show ∃ h, (Option.bind (if decide (c < 0) = true then some (1 - 2 * c) else some c) _) = some h ∧ Hd h
  have hd : ∃ d, (if decide (c < 0) = true then some (1 - 2 * c) else some c) = some d ∧ 0 ≤ d := by
    by_cases h : c < 0
    · rw [if_pos (decide_eq_true h)]
      exact ⟨_, rfl, by omega⟩
    · rw [if_neg (by simpa using h)]
      exact ⟨c, rfl, by omega⟩
  obtain ⟨d, hd, h0⟩ := hd
  rw [hd]
  show ∃ h, (Option.bind (if decide (((10 : Int) ^ 18) ≤ d) = true then some d else some 0) _) = some h ∧ Hd h
  by_cases h : ((10 : Int) ^ 18) ≤ d
  · rw [if_pos (decide_eq_true h)]
    exact ⟨_, rfl, _, _, _, rfl, h0⟩
  · rw [if_neg (by simpa using h)]
    exact ⟨_, rfl, _, _, _, rfl, by omega⟩
theorem pick_ok {h : List Int} (hh : Hd h) {n : Int} (hn : 1 ≤ n) (hN : n < 2 ^ 200) : ∃ r h', m_l_pick h n = some (r, h') ∧ 0 ≤ r ∧ r < n ∧ Hd h' := by
  obtain ⟨a, b, c, rfl, ha⟩ := hh
  have i0 : ∀ x y z : Int, at_ [x, y, z] 0 = some x := fun _ _ _ => rfl
  have i1 : ∀ x y z : Int, at_ [x, y, z] 1 = some y := fun _ _ _ => rfl
  have i2 : ∀ x y z : Int, at_ [x, y, z] 2 = some z := fun _ _ _ => rfl
  have s0 : ∀ x y z u : Int, setAt [x, y, z] 0 u = some [u, y, z] := fun _ _ _ _ => rfl
  have s2 : ∀ x y z u : Int, setAt [x, y, z] 2 u = some [x, y, u] := fun _ _ _ _ => rfl
  unfold m_l_pick pyLet
  rw [if_neg (by simp; omega)]
  simp only [i0, i1, i2, s0, s2, Option.bind_some]
  by_cases h : 0 < a
  · rw [if_pos (decide_eq_true h), mod_ok (by omega)]
    simp only [Option.bind_some]
    rw [fdiv_ok (by omega) hN]
    simp only [Option.bind_some, s0]
    exact ⟨_, _, rfl, Int.emod_nonneg _ (by omega), Int.emod_lt_of_pos _ (by omega), _, _, _, rfl, Int.ediv_nonneg ha (by omega)⟩
  · rw [if_neg (by simpa using h)]
    have m1 := Int.emod_nonneg (b + 7919 * (c + 1) + 13) (show (2147483647 : Int) ≠ 0 by decide)
    have m2 := Int.emod_lt_of_pos (b + 7919 * (c + 1) + 13) (show (0 : Int) < 2147483647 by decide)
    rw [mul_okL (by omega) (by omega)]
    simp only [Option.bind_some]
    have m3 := Int.emod_nonneg ((b + 7919 * (c + 1) + 13) % 2147483647 * ((b + 7919 * (c + 1) + 13) % 2147483647 + 48271)) (show (2147483629 : Int) ≠ 0 by decide)
    have m4 := Int.emod_lt_of_pos ((b + 7919 * (c + 1) + 13) % 2147483647 * ((b + 7919 * (c + 1) + 13) % 2147483647 + 48271)) (show (0 : Int) < 2147483629 by decide)
    rw [mul_okL (by omega) (by omega)]
    simp only [Option.bind_some]
    rw [mod_ok (by omega)]
    exact ⟨_, _, rfl, Int.emod_nonneg _ (by omega), Int.emod_lt_of_pos _ (by omega), _, _, _, rfl, ha⟩

/-! ### ranges and loops -/
theorem rng_nil {lo hi : Int} (h : hi ≤ lo) : rng lo hi = [] := by
  unfold rng
  have e : (hi - lo).toNat = 0 := by omega
  rw [e]; rfl
theorem rng_cons {lo hi : Int} (h : lo < hi) : rng lo hi = lo :: rng (lo + 1) hi := by
  unfold rng
  have e : (hi - lo).toNat = (hi - (lo + 1)).toNat + 1 := by omega
  rw [e, List.range_succ_eq_map, List.map_cons, List.map_map]
  congr 1
  · omega
  · apply List.map_congr_left
    intro k _
    show lo + ((k + 1 : Nat) : Int) = lo + 1 + (k : Int)
    omega
theorem rngDown_nil {lo hi : Int} (h : lo ≤ hi) : rngDown lo hi = [] := by
  unfold rngDown
  have e : (lo - hi).toNat = 0 := by omega
  rw [e]; rfl
theorem rngDown_cons {lo hi : Int} (h : hi < lo) : rngDown lo hi = lo :: rngDown (lo - 1) hi := by
  unfold rngDown
  have e : (lo - hi).toNat = (lo - 1 - hi).toNat + 1 := by omega
  rw [e, List.range_succ_eq_map, List.map_cons, List.map_map]
  congr 1
  · omega
  · apply List.map_congr_left
    intro k _
    show lo - ((k + 1 : Nat) : Int) = lo - 1 - (k : Int)
    omega
theorem rng_length (lo hi : Int) : (rng lo hi).length = (hi - lo).toNat := by unfold rng; rw [List.length_map, List.length_range]
theorem mem_rng {lo hi x : Int} : x ∈ rng lo hi ↔ lo ≤ x ∧ x < hi := by
  unfold rng
  rw [List.mem_map]
  constructor
  · rintro ⟨k, hk, rfl⟩
    rw [List.mem_range] at hk
    omega
  · intro h
    exact ⟨(x - lo).toNat, List.mem_range.mpr (by omega), by omega⟩
theorem at_app {α : Type} (pre : List α) (x : α) (post : List α) : at_ (pre ++ x :: post) (pre.length : Int) = some x := at_nat (by
  rw [List.getElem?_append_right (Nat.le_refl _), Nat.sub_self]; rfl)
/-- a loop that keeps P runs through -/
theorem forN_inv {α σ : Type} {f : σ → α → Option σ} (P : σ → Prop) : ∀ {xs : List α} {s : σ}, P s → (∀ s x, x ∈ xs → P s → ∃ s', f s x = some s' ∧ P s') → ∃ e, forN f s xs = some e ∧ P e
  | [], s, h0, _ => ⟨s, rfl, h0⟩
  | x :: xs, s, h0, h => by
    obtain ⟨s', e, h1⟩ := h s x (List.mem_cons_self ..) h0
    obtain ⟨e2, h2, h3⟩ := forN_inv P (xs := xs) h1 fun s y hy => h s y (List.mem_cons_of_mem _ hy)
    exact ⟨e2, by show (f s x).bind _ = _; rw [e]; exact h2, h3⟩
theorem forN_nil {α σ : Type} (f : σ → α → Option σ) (s : σ) : forN f s [] = some s := rfl
theorem forN_cons {α σ : Type} (f : σ → α → Option σ) (s : σ) (x : α) (xs : List α) : forN f s (x :: xs) = (f s x).bind fun s' => forN f s' xs := rfl
theorem forR_nil {α σ ρ : Type} (f : σ → α → Option (ρ ⊕ σ)) (s : σ) : forR f s [] = some (.inr s) := rfl
theorem forR_step {α σ ρ : Type} {f : σ → α → Option (ρ ⊕ σ)} {s s' : σ} {x : α} {xs : List α} (h : f s x = some (.inr s')) : forR f s (x :: xs) = forR f s' xs := by
  show (f s x).bind _ = _
  rw [h]; rfl
/-- a search that finds nothing to return -/
theorem forR_all {α ρ : Type} {f : Unit → α → Option (ρ ⊕ Unit)} : ∀ {xs : List α}, (∀ x ∈ xs, f () x = some (.inr ())) → forR f () xs = some (.inr ())
  | [], _ => rfl
  | x :: xs, h => by
    rw [forR_step (h x (List.mem_cons_self ..))]
    exact forR_all fun y hy => h y (List.mem_cons_of_mem _ hy)
/-- a loop that appends what h gives -/
theorem forN_flat {α β : Type} {f : List β → α → Option (List β)} (h : α → List β) (h1 : ∀ x, (h x).length ≤ 1) : ∀ {xs : List α} {acc : List β}, acc.length + xs.length ≤ big → (∀ acc x, x ∈ xs → acc.length < big → f acc x = some (acc ++ h x)) → forN f acc xs = some (acc ++ xs.flatMap h)
  | [], acc, _, _ => by rw [List.flatMap_nil, List.append_nil]; rfl
  | x :: xs, acc, hb, hf => by
    rw [List.length_cons] at hb
    rw [forN_cons, hf acc x (List.mem_cons_self ..) (by omega), Option.bind_some, forN_flat h h1 (by rw [List.length_append]; have := h1 x; omega) fun a y hy => hf a y (List.mem_cons_of_mem _ hy), List.flatMap_cons, List.append_assoc]
/-- a walk by index is a walk over the pairs -/
theorem forN_index {α σ : Type} {f : σ → Int → Option σ} {g : σ → Int × α → Option σ} : ∀ (suf pre : List α) (s : σ), (∀ s (k : Nat) x, (pre ++ suf)[k]? = some x → f s (k : Int) = g s ((k : Int), x)) → forN f s (rng (pre.length : Int) ((pre ++ suf).length : Int)) = forN g s (enumF (pre.length : Int) suf)
  | [], pre, s, _ => by rw [rng_nil (by rw [List.append_nil]; omega)]; rfl
  | x :: suf, pre, s, h => by
    rw [rng_cons (by rw [List.length_append, List.length_cons]; omega)]
    show (f s (pre.length : Int)).bind _ = (g s ((pre.length : Int), x)).bind _
    rw [h s pre.length x (by rw [List.getElem?_append_right (Nat.le_refl _), Nat.sub_self]; rfl)]
    congr 1
    funext s'
    have e : pre ++ x :: suf = (pre ++ [x]) ++ suf := by rw [List.append_assoc]; rfl
    have e2 : ((pre ++ [x]).length : Int) = (pre.length : Int) + 1 := by rw [List.length_append]; rfl
    have z := forN_index suf (pre ++ [x]) s' (f := f) (g := g) (fun s k y hy => h s k y (by rw [e]; exact hy))
    rw [e2] at z
    rw [e]; exact z
theorem forN_index0 {α σ : Type} {f : σ → Int → Option σ} {g : σ → Int × α → Option σ} (xs : List α) (s : σ) (h : ∀ s (k : Nat) x, xs[k]? = some x → f s (k : Int) = g s ((k : Int), x)) : forN f s (rng 0 (xs.length : Int)) = forN g s (enumF 0 xs) := forN_index xs [] s h
theorem enumF_length {α : Type} : ∀ (k : Int) (xs : List α), (enumF k xs).length = xs.length
  | _, [] => rfl
  | k, _ :: ys => by show (enumF (k + 1) ys).length + 1 = ys.length + 1; rw [enumF_length]
theorem enumF_mem {α : Type} : ∀ (k : Int) (xs : List α) {p : Int × α}, p ∈ enumF k xs → p.2 ∈ xs
  | _, [], _, h => by cases h
  | k, y :: ys, p, h => by
    rcases List.mem_cons.mp h with rfl | h
    · exact List.mem_cons_self ..
    · exact List.mem_cons_of_mem _ (enumF_mem (k + 1) ys h)
theorem sortI_self {xs : List Int} (h : xs.Pairwise (· ≤ ·)) : sortI xs = xs := List.mergeSort_of_pairwise (List.Pairwise.imp (fun z => decide_eq_true z) h)
theorem at_mem {α : Type} {xs : List α} {i : Int} (h0 : 0 ≤ i) (h1 : i < xs.length) : ∃ x, at_ xs i = some x ∧ x ∈ xs := by
  obtain ⟨x, e, g⟩ := at_some h0 h1
  exact ⟨x, e, List.mem_of_getElem? g⟩
theorem popAt_ok {α : Type} {xs : List α} {i : Int} (h0 : 0 ≤ i) (h1 : i < xs.length) : ∃ x, popAt xs i = some (x, xs.eraseIdx i.toNat) := by
  have hj : i.toNat < xs.length := by omega
  refine ⟨xs[i.toNat], ?_⟩
  unfold popAt ixN
  rw [if_pos h0, if_pos h1, Option.bind_some, List.getElem?_eq_getElem hj]
  rfl
theorem guard_ok {c : Bool} (h : c = true) : guardO c = some () := if_pos h
theorem pairwise_flat {α : Type} {r : α → α → Prop} {h : α → List α} (hs : ∀ x, h x = [] ∨ h x = [x]) : ∀ {xs : List α}, xs.Pairwise r → (xs.flatMap h).Pairwise r ∧ ∀ y ∈ xs.flatMap h, y ∈ xs
  | [], _ => ⟨by rw [List.flatMap_nil]; exact .nil, fun y hy => by rw [List.flatMap_nil] at hy; exact hy⟩
  | x :: xs, p => by
    have pc := List.pairwise_cons.mp p
    obtain ⟨i1, i2⟩ := pairwise_flat hs pc.2
    rw [List.flatMap_cons]
    rcases hs x with e | e
    · rw [e, List.nil_append]
      exact ⟨i1, fun y hy => List.mem_cons_of_mem _ (i2 y hy)⟩
    · rw [e]
      refine ⟨List.pairwise_cons.mpr ⟨fun y hy => pc.1 y (i2 y hy), i1⟩, fun y hy => ?_⟩
      rcases List.mem_cons.mp hy with rfl | hy
      · exact List.mem_cons_self ..
      · exact List.mem_cons_of_mem _ (i2 y hy)
theorem rng_lt (lo hi : Int) : (rng lo hi).Pairwise (· < ·) := by
  unfold rng
  rw [List.pairwise_map]
  exact List.Pairwise.imp (fun h => by omega) List.pairwise_lt_range
theorem bd {α β : Type} {m : Option α} {f : α → Option β} {x : α} {r : Option β} (h : m = some x) (k : f x = r) : m.bind f = r := by rw [h]; exact k
theorem le_big {n : Nat} (h : n ≤ 100000) : n ≤ big := Nat.le_trans h (by decide)
theorem lt_big {n : Nat} (h : n ≤ 100000) : n < big := Nat.lt_of_le_of_lt h (by decide)
theorem flat_one {α : Type} : ∀ xs : List α, xs.flatMap (fun x => [x]) = xs
  | [] => rfl
  | x :: xs => by rw [List.flatMap_cons, flat_one xs]; rfl
theorem flat_le {α β : Type} {h : α → List β} (h1 : ∀ x, (h x).length ≤ 1) : ∀ xs : List α, (xs.flatMap h).length ≤ xs.length
  | [] => Nat.le_refl _
  | x :: xs => by rw [List.flatMap_cons, List.length_append, List.length_cons]; have := h1 x; have := flat_le h1 xs; omega
theorem ift {α : Type} {b : Bool} {x y r : Option α} (h : b = true) (k : x = r) : (if b = true then x else y) = r := by rw [if_pos h]; exact k
theorem iff' {α : Type} {b : Bool} {x y r : Option α} (h : b = false) (k : y = r) : (if b = true then x else y) = r := by rw [h, if_neg Bool.false_ne_true]; exact k
theorem forN_flatC {α β : Type} {f : List β → α → Option (List β)} (h : α → List β) (c : Nat) : ∀ {xs : List α} {acc : List β}, acc.length + c * xs.length ≤ 100000 → (∀ x ∈ xs, (h x).length ≤ c) → (∀ acc x, x ∈ xs → acc.length + c ≤ 100000 → f acc x = some (acc ++ h x)) → forN f acc xs = some (acc ++ xs.flatMap h)
  | [], acc, _, _, _ => by rw [List.flatMap_nil, List.append_nil]; rfl
  | x :: xs, acc, hb, h1, hf => by
    rw [List.length_cons, Nat.mul_add, Nat.mul_one] at hb
    rw [forN_cons, hf acc x (List.mem_cons_self ..) (by omega), Option.bind_some, forN_flatC h c (by rw [List.length_append]; have := h1 x (List.mem_cons_self ..); omega) (fun y hy => h1 y (List.mem_cons_of_mem _ hy)) fun a y hy => hf a y (List.mem_cons_of_mem _ hy), List.flatMap_cons, List.append_assoc]
theorem enumF_map {α β : Type} (g : α → β) : ∀ (k : Int) (xs : List α), enumF k (xs.map g) = (enumF k xs).map fun p => (p.1, g p.2)
  | _, [] => rfl
  | k, x :: xs => by show (k, g x) :: enumF (k + 1) (xs.map g) = (k, g x) :: _; rw [enumF_map g (k + 1) xs]
theorem flat_map {α β γ : Type} (g : α → β) (h : β → List γ) : ∀ xs : List α, (xs.map g).flatMap h = xs.flatMap fun x => h (g x)
  | [] => rfl
  | x :: xs => by rw [List.map_cons, List.flatMap_cons, List.flatMap_cons, flat_map g h xs]
theorem flat_sing {α β : Type} (g : α → β) : ∀ xs : List α, (xs.flatMap fun x => [g x]) = xs.map g
  | [] => rfl
  | x :: xs => by rw [List.flatMap_cons, flat_sing g xs]; rfl
theorem joinE_sing {α : Type} (g : α → Nat) : ∀ xs : List α, joinL [] (xs.map fun x => [g x]) = xs.map g
  | [] => rfl
  | [_] => rfl
  | x :: y :: r => by
    show [g x] ++ ([] ++ joinL [] ((y :: r).map fun x => [g x])) = _
    rw [joinE_sing g (y :: r)]; rfl
theorem sum_sing {α : Type} (g : α → Nat) : ∀ xs : List α, ((xs.map fun x => [g x]).map (·.length)).sum = xs.length
  | [] => rfl
  | x :: xs => by
    rw [List.map_cons, List.map_cons, List.sum_cons, sum_sing g xs]
    show 1 + xs.length = xs.length + 1
    omega
theorem sJoin_sing {α : Type} (g : α → Nat) {xs : List α} (h : xs.length ≤ 100000) : sJoin [] (xs.map fun x => [g x]) = some (xs.map g) := by
  unfold sJoin
  rw [sum_sing, joinE_sing, if_pos (by show xs.length + _ * 0 ≤ big; rw [Nat.mul_zero]; exact le_big h)]
theorem sLen_ok {s : List Nat} (h : s.length ≤ 100000) : sLen s = some (s.length : Int) := if_pos (le_big h)
theorem sAt_ok {s : List Nat} {i : Int} (h : s.length ≤ 100000) (h0 : 0 ≤ i) (h1 : i < s.length) : sAt s i = some [s[i.toNat]?.getD 0] ∧ s[i.toNat]?.getD 0 ∈ s := by
  obtain ⟨x, e, g⟩ := at_some h0 h1
  unfold sAt
  rw [if_pos (le_big h), e, g]
  exact ⟨rfl, List.mem_of_getElem? g⟩
theorem sCut_ok {s : List Nat} {lo hi : Option Int} (h : s.length ≤ 100000) : sCut s lo hi = some (cut s lo hi) := if_pos (le_big h)
theorem sCat_ok {s t : List Nat} (h : s.length + t.length ≤ 100000) : sCat s t = some (s ++ t) := if_pos (le_big h)
theorem cut_mem {α : Type} {xs : List α} {lo hi : Option Int} {x : α} (h : x ∈ cut xs lo hi) : x ∈ xs := List.mem_of_mem_drop (List.mem_of_mem_take h)
theorem cut_to {α : Type} {xs : List α} {i : Int} (h0 : 0 ≤ i) (h1 : i ≤ xs.length) : (cut xs none (some i)).length = i.toNat := by
  show ((xs.drop 0).take ((if i < 0 then (i + (xs.length : Int)).toNat else min i.toNat xs.length) - 0)).length = _
  rw [if_neg (by omega), List.length_take, List.length_drop]
  omega
theorem cut_from {α : Type} {xs : List α} {i : Int} (h0 : 0 ≤ i) (h1 : i ≤ xs.length) : (cut xs (some i) none).length = xs.length - i.toNat := by
  show ((xs.drop (if i < 0 then (i + (xs.length : Int)).toNat else min i.toNat xs.length)).take (xs.length - (if i < 0 then (i + (xs.length : Int)).toNat else min i.toNat xs.length))).length = _
  rw [if_neg (by omega), List.length_take, List.length_drop]
  omega
theorem map_erase {α β : Type} (f : α → β) : ∀ (xs : List α) (k : Nat), (xs.map f).eraseIdx k = (xs.eraseIdx k).map f
  | [], _ => rfl
  | x :: xs, 0 => rfl
  | x :: xs, k + 1 => by
    show f x :: (xs.map f).eraseIdx k = f x :: (xs.eraseIdx k).map f
    rw [map_erase f xs k]

/-! ### loops by what has been gone through -/
theorem forN_ind {α σ : Type} {f : σ → α → Option σ} (P : List α → σ → Prop) {xs : List α} {s0 : σ} (h0 : P [] s0) (h : ∀ pre x suf s, xs = pre ++ x :: suf → P pre s → ∃ s', f s x = some s' ∧ P (pre ++ [x]) s') : ∃ e, forN f s0 xs = some e ∧ P xs e := by
  have key : ∀ (suf pre : List α) (s : σ), xs = pre ++ suf → P pre s → ∃ e, forN f s suf = some e ∧ P xs e := by
    intro suf
    induction suf with
    | nil => intro pre s e p; rw [List.append_nil] at e; subst e; exact ⟨s, rfl, p⟩
    | cons x suf ih =>
      intro pre s e p
      obtain ⟨s', e1, p1⟩ := h pre x suf s e p
      obtain ⟨r, e2, p2⟩ := ih (pre ++ [x]) s' (by rw [e, List.append_assoc]; rfl) p1
      exact ⟨r, by rw [forN_cons, e1]; exact e2, p2⟩
  exact key xs [] s0 rfl h0
theorem forN_thru {α σ : Type} {f : σ → α → Option σ} (st : List α → σ) {xs : List α} {s0 : σ} (h0 : s0 = st []) (h : ∀ pre x suf, xs = pre ++ x :: suf → f (st pre) x = some (st (pre ++ [x]))) : forN f s0 xs = some (st xs) := by
  obtain ⟨e, h1, h2⟩ := forN_ind (f := f) (fun pre s => s = st pre) h0 (fun pre x suf s e p => ⟨_, by rw [p]; exact h pre x suf e, rfl⟩)
  rw [h1, h2]
theorem forR_thru {α σ ρ : Type} {f : σ → α → Option (ρ ⊕ σ)} (st : List α → σ) {xs : List α} {s0 : σ} (h0 : s0 = st []) (h : ∀ pre x suf, xs = pre ++ x :: suf → f (st pre) x = some (.inr (st (pre ++ [x])))) : forR f s0 xs = some (.inr (st xs)) := by
  subst h0
  have key : ∀ (suf pre : List α), xs = pre ++ suf → forR f (st pre) suf = some (.inr (st xs)) := by
    intro suf
    induction suf with
    | nil => intro pre e; rw [List.append_nil] at e; subst e; rfl
    | cons x suf ih =>
      intro pre e
      rw [forR_step (h pre x suf e)]
      exact ih (pre ++ [x]) (by rw [e, List.append_assoc]; rfl)
  exact key xs [] rfl
theorem mem_mid {α : Type} {xs pre suf : List α} {x : α} (e : xs = pre ++ x :: suf) : x ∈ xs := by rw [e]; exact List.mem_append_right _ (List.mem_cons_self ..)
theorem mem_pre {α : Type} {xs pre suf : List α} {x y : α} (e : xs = pre ++ x :: suf) (h : y ∈ pre) : y ∈ xs := by rw [e]; exact List.mem_append_left _ h
theorem rng_app (lo mid hi : Int) (h1 : lo ≤ mid) (h2 : mid ≤ hi) : rng lo hi = rng lo mid ++ rng mid hi := by
  have key : ∀ (n : Nat) (lo : Int), (mid - lo).toNat = n → lo ≤ mid → rng lo hi = rng lo mid ++ rng mid hi := by
    intro n
    induction n with
    | zero => intro lo e h; have : lo = mid := by omega
              subst this; rw [rng_nil (Int.le_refl _)]; rfl
    | succ n ih =>
      intro lo e h
      rw [rng_cons (lo := lo) (hi := hi) (by omega), rng_cons (lo := lo) (hi := mid) (by omega), ih (lo + 1) (by omega) (by omega)]; rfl
  exact key _ lo rfl h1
theorem rng_mid {lo hi : Int} {pre suf : List Int} {x : Int} (e : rng lo hi = pre ++ x :: suf) : x = lo + pre.length ∧ pre = rng lo x ∧ suf = rng (x + 1) hi ∧ x < hi := by
  induction pre generalizing lo with
  | nil =>
    by_cases h : lo < hi
    · rw [rng_cons h] at e
      obtain ⟨rfl, e2⟩ := List.cons.inj e
      exact ⟨by simp, by rw [rng_nil (Int.le_refl _)], e2.symm, h⟩
    · rw [rng_nil (by omega)] at e; cases e
  | cons y pre ih =>
    by_cases h : lo < hi
    · rw [rng_cons h] at e
      obtain ⟨rfl, e2⟩ := List.cons.inj e
      obtain ⟨h1, h2, h3, h4⟩ := ih e2
      have hl : lo < x := by rw [h1]; omega
      exact ⟨by rw [h1, List.length_cons]; omega, by rw [rng_cons hl, ← h2], h3, h4⟩
    · rw [rng_nil (by omega)] at e; cases e
theorem at_rng {lo hi i : Int} (h0 : 0 ≤ i) (h1 : lo + i < hi) : at_ (rng lo hi) i = some (lo + i) := by
  refine at_int h0 ?_
  unfold rng
  rw [List.getElem?_map, List.getElem?_range (by omega)]
  show some (lo + (i.toNat : Int)) = _
  rw [Int.toNat_of_nonneg h0]
theorem setAt_ok {α : Type} {xs : List α} {i : Int} {x : α} (h0 : 0 ≤ i) (h1 : i < xs.length) : setAt xs i x = some (xs.set i.toNat x) := by
  unfold setAt ixN
  rw [if_pos h0, if_pos h1]; rfl
theorem at_get {α : Type} {xs : List α} {i : Int} {d : α} (h0 : 0 ≤ i) (h1 : i < xs.length) : at_ xs i = some (xs[i.toNat]?.getD d) := by
  obtain ⟨x, e, g⟩ := at_some h0 h1
  rw [e, g]; rfl
theorem contains_true {α : Type} [BEq α] [LawfulBEq α] {xs : List α} {x : α} (h : x ∈ xs) : xs.contains x = true := by rw [List.contains_iff_mem]; exact h
theorem contains_false {α : Type} [BEq α] [LawfulBEq α] {xs : List α} {x : α} (h : x ∉ xs) : xs.contains x = false := by
  cases e : xs.contains x with
  | false => rfl
  | true => exact absurd (List.contains_iff_mem.mp e) h
theorem nodup_mid {α : Type} {xs pre suf : List α} {x : α} (e : xs = pre ++ x :: suf) (h : xs.Nodup) : x ∉ pre := by
  intro hm
  rw [e] at h
  exact (List.pairwise_append.mp h).2.2 x hm x (List.mem_cons_self ..) rfl
theorem lt_nodup {xs : List Int} (h : xs.Pairwise (· < ·)) : xs.Nodup := List.Pairwise.imp (fun z e => by omega) h
theorem lt_len {xs : List Int} {n : Nat} (hp : xs.Pairwise (· < ·)) (hb : ∀ x ∈ xs, 0 ≤ x ∧ x < (n : Int)) : xs.length ≤ n := by
  have h2 : ∀ (n : Nat) (l : List Int) (lo : Int), l.Pairwise (· < ·) → (∀ x ∈ l, lo ≤ x ∧ x < lo + n) → l.length ≤ n := by
    intro n
    induction n with
    | zero =>
      intro l lo _ hb
      cases l with
      | nil => exact Nat.le_refl _
      | cons x l => have := hb x (List.mem_cons_self ..); omega
    | succ n ih =>
      intro l lo hp hb
      cases l with
      | nil => exact Nat.zero_le _
      | cons x l =>
        have hx := hb x (List.mem_cons_self ..)
        have pc := List.pairwise_cons.mp hp
        have := ih l (lo + 1) pc.2 (fun y hy => by
          have h1 := pc.1 y hy
          have h2 := hb y (List.mem_cons_of_mem _ hy)
          omega)
        rw [List.length_cons]; omega
  exact h2 n xs 0 hp (fun x hx => by have := hb x hx; omega)
theorem bdE {α β : Type} {m : Option α} {f : α → Option β} {x : α} {P : β → Prop} (h : m = some x) (k : ∃ r, f x = some r ∧ P r) : ∃ r, m.bind f = some r ∧ P r := by rw [h]; exact k
theorem bf {b : Bool} (h : ¬ b = true) : b = false := by cases b with
  | false => rfl
  | true => exact absurd rfl h
theorem rngL_ok {lo hi : Int} (h1 : -(2 ^ 60) ≤ lo) (h2 : lo < 2 ^ 60) (h3 : -(2 ^ 60) ≤ hi) (h4 : hi < 2 ^ 60) (h5 : (hi - lo).toNat ≤ 1000000) : rngL lo hi = some (rng lo hi) := by
  unfold rngL
  exact if_pos ⟨⟨h1, h2⟩, ⟨h3, h4⟩, h5⟩
theorem rep_flat {α : Type} (x : α) : ∀ n : Nat, (List.replicate n [x]).flatten = List.replicate n x
  | 0 => rfl
  | n + 1 => by rw [List.replicate_succ, List.flatten_cons, rep_flat x n, List.replicate_succ]; rfl
theorem repL_one {α : Type} (x : α) {n : Nat} (h : n ≤ 100000) : repL [x] (n : Int) = some (List.replicate n x) := by
  unfold repL
  have h2 : [x].length * ((n : Int)).toNat ≤ big := by
    rw [List.length_singleton, Nat.one_mul, Int.toNat_natCast]; exact le_big h
  rw [if_pos ⟨by omega, by omega, h2⟩, Int.toNat_natCast, rep_flat]
theorem bdP {α β γ : Type} {m : Option α} {f : α → Option (β × γ)} {x : α} {P : β → γ → Prop} (h : m = some x) (k : ∃ r h', f x = some (r, h') ∧ P r h') : ∃ r h', m.bind f = some (r, h') ∧ P r h' := by rw [h]; exact k
theorem iftP {β γ : Type} {b : Bool} {x y : Option (β × γ)} {P : β → γ → Prop} (h : b = true) (k : ∃ r h', x = some (r, h') ∧ P r h') : ∃ r h', (if b = true then x else y) = some (r, h') ∧ P r h' := by rw [if_pos h]; exact k
theorem iffP {β γ : Type} {b : Bool} {x y : Option (β × γ)} {P : β → γ → Prop} (h : b = false) (k : ∃ r h', y = some (r, h') ∧ P r h') : ∃ r h', (if b = true then x else y) = some (r, h') ∧ P r h' := by rw [h, if_neg Bool.false_ne_true]; exact k
theorem ltE {α β : Type} {e : α} {f : α → Option β} {r : Option β} (k : f e = r) : pyLet e f = r := k
theorem ltP' {α β γ : Type} {e : α} {f : α → Option (β × γ)} {P : β → γ → Prop} (k : ∃ r h', f e = some (r, h') ∧ P r h') : ∃ r h', pyLet e f = some (r, h') ∧ P r h' := k

/-! ### a drawn sea -/
abbrev SeaT := List Int × List (Int × Int) × List Int × List Int
def LanesU (n : Int) (ls : List (Int × Int)) : Prop := (∀ p ∈ ls, 0 ≤ p.1 ∧ p.1 < p.2 ∧ p.2 < n) ∧ ls.Nodup ∧ ls.length ≤ 66
def TideOk (t : List Int) : Prop := 1 ≤ t.length ∧ t.length ≤ 12 ∧ ∀ x ∈ t, 0 ≤ x ∧ x ≤ 20
def DeepOk (t : List Int) : Prop := 1 ≤ t.length ∧ t.length ≤ 12 ∧ ∀ x ∈ t, 0 ≤ x ∧ x ≤ 99
def PortOk (n : Int) (t : List Int) : Prop := t.Pairwise (· < ·) ∧ ∀ x ∈ t, 0 ≤ x ∧ x < n
def SeaOk (s : SeaT) : Prop := DeepOk s.1 ∧ LanesU s.1.length s.2.1 ∧ TideOk s.2.2.1 ∧ PortOk s.1.length s.2.2.2
theorem some_ok {h : List Int} (hh : Hd h) {n c : Int} (n0 : 0 ≤ n) (n1 : n ≤ 1000) (c0 : 1 ≤ c) (c1 : c ≤ 1000) : ∃ z h', m_l_some h n c = some (z, h') ∧ PortOk n z ∧ Hd h' := by
  simp only [m_l_some]
  rw [rngO_ok (by decide) (by decide) (by omega) (by omega)]; simp only [Option.bind_some]
  obtain ⟨e, he, p1, p2, p3, _⟩ := forN_ind (f := m_l_some_b1 c) (xs := rng 0 n) (s0 := (h, ([] : List Int))) (fun pre s => Hd s.1 ∧ s.2.Pairwise (· < ·) ∧ (∀ x ∈ s.2, 0 ≤ x ∧ x < (pre.length : Int)) ∧ s.2.length ≤ pre.length) ⟨hh, .nil, (fun x hx => nomatch hx), Nat.le_refl _⟩ (fun pre x suf s e hp => by
    obtain ⟨hs, hp1, hp2, hl⟩ := hp
    obtain ⟨e1, e2, _, e4⟩ := rng_mid e
    obtain ⟨r, h1, er, r0, r1, hh1⟩ := pick_ok hs (n := c) c0 (by omega)
    simp only [m_l_some_b1]
    rw [er]; simp only [Option.bind_some]
    have hl2 : ((pre ++ [x]).length : Int) = (pre.length : Int) + 1 := by rw [List.length_append]; rfl
    have hl3 : (pre ++ [x]).length = pre.length + 1 := by rw [List.length_append]; rfl
    by_cases c : r = 0
    · rw [if_pos (decide_eq_true c), app_ok (xs := s.2) (lt_big (by omega))]; simp only [Option.bind_some]
      refine ⟨_, rfl, hh1, ?_, ?_, ?_⟩
      · show (s.2 ++ [x]).Pairwise (· < ·)
        rw [List.pairwise_append]
        exact ⟨hp1, List.pairwise_singleton .., fun a ha b hb => by rw [List.mem_singleton] at hb; subst hb; have := hp2 a ha; omega⟩
      · intro y hy
        rcases List.mem_append.mp hy with hy | hy
        · have := hp2 y hy; omega
        · rw [List.mem_singleton] at hy; omega
      · show (s.2 ++ [x]).length ≤ _; rw [List.length_append, hl3]; show s.2.length + 1 ≤ _; omega
    · rw [if_neg (by simpa using c)]; simp only [Option.bind_some]
      exact ⟨_, rfl, hh1, hp1, fun y hy => by have := hp2 y hy; omega, by show s.2.length ≤ _; omega⟩)
  rw [he]; simp only [Option.bind_some]
  refine ⟨_, _, rfl, ⟨p2, fun x hx => ?_⟩, p1⟩
  have := p3 x hx
  rw [rng_length] at this; omega
theorem sea_ok {h : List Int} (hh : Hd h) {n : Int} (n0 : 1 ≤ n) (n1 : n ≤ 12) : ∃ s h', m_l_sea h n = some (s, h') ∧ SeaOk s ∧ Hd h' ∧ (s.1.length : Int) ≤ n ∧ s.2.2.1.length ≤ 3 ∧ ∃ r, s.2.2.1 = 0 :: r := by
  simp only [m_l_sea, pyLet]
  obtain ⟨a, h1, e1, a0, a1, hh1⟩ := pick_ok hh (n := n) n0 (by omega)
  rw [e1]; simp only [Option.bind_some]
  obtain ⟨b, h2, e2, b0, b1, hh2⟩ := pick_ok hh1 (n := 3) (by decide) (by decide)
  rw [e2]; simp only [Option.bind_some]
  obtain ⟨sp, e3, m3⟩ := at_mem (xs := [(2 : Int), (6 : Int), (100 : Int)]) b0 b1
  rw [e3]; simp only [Option.bind_some]
  have sp1 : 1 ≤ sp ∧ sp ≤ 100 := by simp at m3; omega
  obtain ⟨c, h3, e4, c0, c1, hh3⟩ := pick_ok hh2 (n := 3) (by decide) (by decide)
  rw [e4]; simp only [Option.bind_some]
  obtain ⟨sw, e5, m5⟩ := at_mem (xs := [(1 : Int), (4 : Int), (21 : Int)]) c0 c1
  rw [e5]; simp only [Option.bind_some]
  have sw1 : 1 ≤ sw ∧ sw ≤ 21 := by simp at m5; omega
  rw [rngO_ok (by decide) (by decide) (by omega) (by omega)]; simp only [Option.bind_some]
  obtain ⟨q, eq, q1, q2, q3, q4, q5, q6⟩ := forN_ind (f := m_l_sea_b1 sp) (xs := rng 0 (1 + a)) (s0 := (h3, ([] : List Int), ([] : List (Int × Int)))) (fun pre s => Hd s.1 ∧ s.2.1.length = pre.length ∧ (∀ x ∈ s.2.1, 0 ≤ x ∧ x ≤ 99) ∧ (∀ p ∈ s.2.2, 0 ≤ p.1 ∧ p.1 < p.2 ∧ p.2 < (pre.length : Int)) ∧ s.2.2.Nodup ∧ 2 * s.2.2.length + pre.length ≤ pre.length * pre.length) ⟨hh3, rfl, (fun x hx => nomatch hx), (fun x hx => nomatch hx), .nil, Nat.le_refl _⟩ (fun pre x suf s e hp => by
    obtain ⟨p1, p2, p3, p4, p5, p6⟩ := hp
    obtain ⟨g1, g2, _, g4⟩ := rng_mid e
    have hl2 : ((pre ++ [x]).length : Int) = (pre.length : Int) + 1 := by rw [List.length_append]; rfl
    have hl3 : (pre ++ [x]).length = pre.length + 1 := by rw [List.length_append]; rfl
    have pl : pre.length ≤ 12 := by omega
    have pm : pre.length * pre.length ≤ 12 * 12 := Nat.mul_le_mul pl pl
    simp only [m_l_sea_b1]
    obtain ⟨d, h4, e6, d0, d1, hh4⟩ := pick_ok p1 (n := sp) (by omega) (by omega)
    rw [e6]; simp only [Option.bind_some]
    rw [app_ok (xs := s.2.1) (lt_big (by omega))]; simp only [Option.bind_some]
    rw [rngO_ok (by decide) (by decide) (by omega) (by omega)]; simp only [Option.bind_some]
    obtain ⟨u, eu, u1, u2, u3, u4⟩ := forN_ind (f := m_l_sea_b2 x) (xs := rng 0 x) (s0 := (h4, s.2.2)) (fun pr t => Hd t.1 ∧ (∀ p ∈ t.2, p ∈ s.2.2 ∨ (p.2 = x ∧ 0 ≤ p.1 ∧ p.1 < (pr.length : Int))) ∧ t.2.Nodup ∧ t.2.length ≤ s.2.2.length + pr.length) ⟨hh4, fun p hp => .inl hp, p5, Nat.le_refl _⟩ (fun pr y sf t e' hp' => by
      obtain ⟨t1, t2, t3, t4⟩ := hp'
      obtain ⟨k1, _, _, k4⟩ := rng_mid e'
      have kl2 : ((pr ++ [y]).length : Int) = (pr.length : Int) + 1 := by rw [List.length_append]; rfl
      have kl3 : (pr ++ [y]).length = pr.length + 1 := by rw [List.length_append]; rfl
      simp only [m_l_sea_b2]
      obtain ⟨z, h5, e7, z0, z1, hh5⟩ := pick_ok t1 (n := 4) (by decide) (by decide)
      rw [e7]; simp only [Option.bind_some]
      by_cases cz : 0 < z
      · rw [if_pos (decide_eq_true cz), app_ok (xs := t.2) (lt_big (by omega))]; simp only [Option.bind_some]
        refine ⟨_, rfl, hh5, ?_, ?_, ?_⟩
        · intro p hp
          rcases List.mem_append.mp hp with hp | hp
          · rcases t2 p hp with h | h
            · exact .inl h
            · exact .inr ⟨h.1, h.2.1, by omega⟩
          · rw [List.mem_singleton] at hp; subst hp; exact .inr ⟨rfl, by show 0 ≤ y; omega, by show y < _; omega⟩
        · show (t.2 ++ [(y, x)]).Nodup
          rw [List.nodup_append]
          refine ⟨t3, List.nodup_cons.mpr ⟨List.not_mem_nil, .nil⟩, fun p hp p' hp' => ?_⟩
          rw [List.mem_singleton] at hp'; subst hp'
          intro he; subst he
          rcases t2 _ hp with h | h
          · have := p4 _ h; simp only at this; omega
          · have := h.2.2; simp only at this; omega
        · show (t.2 ++ [(y, x)]).length ≤ _; rw [List.length_append, kl3]; show t.2.length + 1 ≤ _; omega
      · rw [if_neg (by simpa using cz)]; simp only [Option.bind_some]
        exact ⟨_, rfl, hh5, fun p hp => by
          rcases t2 p hp with h | h
          · exact .inl h
          · exact .inr ⟨h.1, h.2.1, by omega⟩, t3, by show t.2.length ≤ _; omega⟩)
    rw [eu]; simp only [Option.bind_some]
    rw [rng_length] at u2 u4
    refine ⟨_, rfl, u1, ?_, ?_, ?_, u3, ?_⟩
    · show (s.2.1 ++ [d]).length = _; rw [List.length_append, hl3, p2]; rfl
    · intro y hy
      rcases List.mem_append.mp hy with hy | hy
      · exact p3 y hy
      · rw [List.mem_singleton] at hy; subst hy; omega
    · intro p hp
      rcases u2 p hp with h | h
      · have := p4 p h; omega
      · omega
    · show 2 * u.2.length + _ ≤ _
      have hx : (x - 0).toNat = pre.length := by omega
      rw [hl3, Nat.add_mul, Nat.mul_add]
      omega)
  rw [eq]; simp only [Option.bind_some]
  rw [rng_length] at q2 q4 q6
  have hn : (1 + a - 0).toNat = (1 + a).toNat := by omega
  obtain ⟨d, h4, e6, d0, d1, hh4⟩ := pick_ok q1 (n := 3) (by decide) (by decide)
  rw [e6]; simp only [Option.bind_some]
  rw [rngO_ok (by decide) (by decide) (by omega) (by omega)]; simp only [Option.bind_some]
  obtain ⟨u, eu, u1, u2, u3, u4⟩ := forN_ind (f := m_l_sea_b3 sw) (xs := rng 0 d) (s0 := (h4, [(0 : Int)])) (fun pr t => Hd t.1 ∧ (∀ y ∈ t.2, 0 ≤ y ∧ y ≤ 20) ∧ t.2.length = 1 + pr.length ∧ ∃ r, t.2 = 0 :: r) ⟨hh4, (fun y hy => by rw [List.mem_singleton] at hy; omega), rfl, [], rfl⟩ (fun pr y sf t e' hp' => by
    obtain ⟨t1, t2, t3, r, t4⟩ := hp'
    obtain ⟨k1, _, _, k4⟩ := rng_mid e'
    simp only [m_l_sea_b3]
    obtain ⟨z, h5, e7, z0, z1, hh5⟩ := pick_ok t1 (n := sw) (by omega) (by omega)
    rw [e7]; simp only [Option.bind_some]
    rw [app_ok (xs := t.2) (lt_big (by omega))]; simp only [Option.bind_some]
    refine ⟨_, rfl, hh5, ?_, ?_, r ++ [z], ?_⟩
    · intro p hp
      rcases List.mem_append.mp hp with hp | hp
      · exact t2 p hp
      · rw [List.mem_singleton] at hp; omega
    · show (t.2 ++ [z]).length = _; rw [List.length_append, List.length_append, t3]; rfl
    · show t.2 ++ [z] = _; rw [t4]; rfl)
  rw [eu]; simp only [Option.bind_some]
  rw [rng_length] at u3
  obtain ⟨z, h5, e8, hz, hh5⟩ := some_ok u1 (n := 1 + a) (c := 4) (by omega) (by omega) (by decide) (by decide)
  rw [e8]; simp only [Option.bind_some]
  have ql : (q.2.1.length : Int) = 1 + a := by omega
  refine ⟨_, _, rfl, ⟨⟨?_, ?_, q3⟩, ⟨?_, q5, ?_⟩, ⟨?_, ?_, u2⟩, ?_⟩, hh5, ?_, ?_, u4⟩
  · show 1 ≤ q.2.1.length; omega
  · show q.2.1.length ≤ 12; omega
  · intro p hp
    have := q4 p hp
    show _ ∧ _ ∧ p.2 < (q.2.1.length : Int); omega
  · show q.2.2.length ≤ 66
    have hm : (1 + a - 0).toNat * (1 + a - 0).toNat ≤ 12 * (1 + a - 0).toNat := Nat.mul_le_mul_right _ (by omega)
    omega
  · show 1 ≤ u.2.length; omega
  · show u.2.length ≤ 12; omega
  · show PortOk (q.2.1.length : Int) z; rw [ql]; exact hz
  · show (q.2.1.length : Int) ≤ n; omega
  · show u.2.length ≤ 3; omega
theorem wide_ok {h : List Int} (hh : Hd h) : ∃ s h', m_l_wide h = some (s, h') ∧ SeaOk s ∧ Hd h' ∧ s.2.2.1.length ≤ 3 ∧ ∃ r, s.2.2.1 = 0 :: r := by
  simp only [m_l_wide]
  obtain ⟨a, h1, e1, a0, a1, hh1⟩ := pick_ok hh (n := 4) (by decide) (by decide)
  rw [e1]; simp only [Option.bind_some]
  obtain ⟨k, e2, m2⟩ := at_mem (xs := [(6 : Int), (6 : Int), (6 : Int), (12 : Int)]) a0 a1
  rw [e2]; simp only [Option.bind_some]
  obtain ⟨s, h2, e3, hs, hh2, _, hf, hr⟩ := sea_ok hh1 (n := k) (by simp at m2; omega) (by simp at m2; omega)
  rw [e3]; simp only [Option.bind_some]
  exact ⟨_, _, rfl, hs, hh2, hf, hr⟩
theorem flows_ok {h : List Int} (hh : Hd h) {s : SeaT} (hs : TideOk s.2.2.1) : ∃ t h', m_l_flows h s = some (t, h') ∧ TideOk t ∧ Hd h' := by
  simp only [m_l_flows]
  obtain ⟨a, h1, e1, a0, a1, hh1⟩ := pick_ok hh (n := 2) (by decide) (by decide)
  rw [e1]; simp only [Option.bind_some]
  by_cases c : a = 0
  · rw [if_pos (decide_eq_true c)]
    obtain ⟨b, h2, e2, b0, b1, hh2⟩ := pick_ok hh1 (n := 12) (by decide) (by decide)
    rw [e2]; simp only [Option.bind_some]
    rw [rngO_ok (by decide) (by decide) (by omega) (by omega)]; simp only [Option.bind_some]
    obtain ⟨u, eu, u1, u2, u3⟩ := forN_ind (f := m_l_flows_b1) (xs := rng 0 (1 + b)) (s0 := (([] : List Int), h2)) (fun pr t => Hd t.2 ∧ (∀ y ∈ t.1, 0 ≤ y ∧ y ≤ 20) ∧ t.1.length = pr.length) ⟨hh2, (fun y hy => nomatch hy), rfl⟩ (fun pr y sf t e' hp' => by
      obtain ⟨t1, t2, t3⟩ := hp'
      obtain ⟨k1, _, _, k4⟩ := rng_mid e'
      simp only [m_l_flows_b1]
      obtain ⟨z, h5, e7, z0, z1, hh5⟩ := pick_ok t1 (n := 21) (by decide) (by decide)
      rw [e7]; simp only [Option.bind_some]
      rw [app_ok (xs := t.1) (lt_big (by omega))]; simp only [Option.bind_some]
      refine ⟨_, rfl, hh5, ?_, ?_⟩
      · intro p hp
        rcases List.mem_append.mp hp with hp | hp
        · exact t2 p hp
        · rw [List.mem_singleton] at hp; omega
      · show (t.1 ++ [z]).length = _; rw [List.length_append, List.length_append, t3]; rfl)
    rw [eu]; simp only [Option.bind_some]
    rw [rng_length] at u3
    exact ⟨_, _, rfl, ⟨by show 1 ≤ u.1.length; omega, by show u.1.length ≤ 12; omega, u2⟩, u1⟩
  · rw [if_neg (by simpa using c)]
    have l1 := cut_from (xs := s.2.2.1) (i := 1) (by decide) (by have := hs.1; omega)
    have l2 := cut_to (xs := s.2.2.1) (i := 1) (by decide) (by have := hs.1; omega)
    have t1 := hs.1
    have t2 := hs.2.1
    have i1 : (1 : Int).toNat = 1 := rfl
    rw [i1] at l1 l2
    rw [cat_ok (le_big (by omega))]; simp only [Option.bind_some]
    refine ⟨_, _, rfl, ⟨by rw [List.length_append]; omega, by rw [List.length_append]; omega, fun x hx => ?_⟩, hh1⟩
    rcases List.mem_append.mp hx with hx | hx
    · exact hs.2.2 x (cut_mem hx)
    · exact hs.2.2 x (cut_mem hx)

/-! ### a chart -/
def nrm (p : Int × Int) : Int × Int := (min p.1 p.2, max p.1 p.2)
/-- lanes in any direction -/
def LanesG (n : Int) (ls : List (Int × Int)) : Prop := (∀ p ∈ ls, 0 ≤ (nrm p).1 ∧ (nrm p).1 < (nrm p).2 ∧ (nrm p).2 < n) ∧ (ls.map nrm).Nodup ∧ ls.length ≤ 66
def HarbG (n : Int) (t : List Int) : Prop := t.Nodup ∧ (∀ x ∈ t, 0 ≤ x ∧ x < n) ∧ t.length ≤ 12
theorem nrm_up {p : Int × Int} (h : p.1 < p.2) : nrm p = p := Prod.ext (by show min p.1 p.2 = p.1; omega) (by show max p.1 p.2 = p.2; omega)
theorem map_nrm {ls : List (Int × Int)} (h : ∀ p ∈ ls, p.1 < p.2) : ls.map nrm = ls := by
  induction ls with
  | nil => rfl
  | cons p ls ih => rw [List.map_cons, nrm_up (h p (List.mem_cons_self ..)), ih fun q hq => h q (List.mem_cons_of_mem _ hq)]
theorem LanesU.g {n : Int} {ls : List (Int × Int)} (h : LanesU n ls) : LanesG n ls := by
  have e := map_nrm fun p hp => (h.1 p hp).2.1
  exact ⟨fun p hp => by rw [nrm_up (h.1 p hp).2.1]; exact h.1 p hp, by rw [e]; exact h.2.1, h.2.2⟩
theorem PortOk.g {n : Nat} {t : List Int} (h : PortOk n t) (hn : n ≤ 12) : HarbG n t := ⟨lt_nodup h.1, h.2, Nat.le_trans (lt_len h.1 h.2) hn⟩

theorem numbers_ok_0 {xs : List Int} {m g : Int} (h1 : 1 ≤ xs.length) (h2 : (xs.length : Int) ≤ m) (h : ∀ x ∈ xs, 0 ≤ x ∧ x ≤ g) : m_good_numbers xs m g = some true := by
  simp only [m_good_numbers]
  refine iff' (by simp; omega) ?_
  refine bd (forR_all fun x hx => ?_) rfl
  have := h x hx
  simp only [m_good_numbers_b1]
  exact iff' (by simp; omega) rfl
theorem depths_ok_0 {xs : List Int} (h : DeepOk xs) : m_good_depths xs = some true := by
  simp only [m_good_depths]
  exact bd (numbers_ok_0 h.1 (by have := h.2.1; omega) h.2.2) rfl
theorem tide_ok_0 {xs : List Int} (h : TideOk xs) : m_good_tide xs = some true := by
  simp only [m_good_tide]
  exact bd (numbers_ok_0 h.1 (by have := h.2.1; omega) h.2.2) rfl
theorem harb_ok_0 {xs : List Int} {n : Int} (h : HarbG n xs) : m_good_harbours xs n = some true := by
  simp only [m_good_harbours, m_is_zone_0]
  refine bd (bd (forR_thru (fun pre => pre) rfl fun pre x suf e => ?_) rfl) rfl
  have hx := h.2.1 x (mem_mid e)
  have hl : pre.length ≤ 12 := by have := congrArg List.length e; rw [List.length_append] at this; have := h.2.2; omega
  have hc := contains_false (nodup_mid e h.1)
  simp only [m_is_zone_0_b1]
  refine iff' (by rw [hc]; simp; omega) ?_
  refine bd (show sadd pre x = some (pre ++ [x]) from ?_) rfl
  unfold sadd
  rw [if_pos (by omega), hc]; rfl
theorem lanes_ok_0 {ls : List (Int × Int)} {n : Int} (h : LanesG n ls) : m_good_lanes ls n = some true := by
  simp only [m_good_lanes]
  refine bd (forR_thru (fun pre => pre.map nrm) rfl fun pre x suf e => ?_) rfl
  have hx := h.1 x (mem_mid e)
  have hl : pre.length ≤ 66 := by have := congrArg List.length e; rw [List.length_append] at this; have := h.2.2; omega
  have hc : (pre.map nrm).contains (nrm x) = false := contains_false (nodup_mid (xs := ls.map nrm) (suf := suf.map nrm) (by rw [e, List.map_append, List.map_cons]) h.2.1)
  simp only [m_good_lanes_b1, pyLet]
  have c1 : ¬ (min x.1 x.2 : Int) < 0 := by have := hx.1; unfold nrm at this; simp only at this; omega
  have c2 : ¬ n ≤ (max x.1 x.2 : Int) := by have := hx.2.2; unfold nrm at this; simp only at this; omega
  have c3 : ¬ (min x.1 x.2 : Int) = (max x.1 x.2 : Int) := by have := hx.2.1; unfold nrm at this; simp only at this; omega
  refine bd (iff' (decide_eq_false c1) (iff' (decide_eq_false c2) (iff' (decide_eq_false c3) (congrArg some hc)))) ?_
  refine iff' rfl ?_
  refine bd (show saddP (pre.map nrm) (nrm x) = some (pre.map nrm ++ [nrm x]) from ?_) (by rw [List.map_append]; rfl)
  unfold saddP
  rw [if_pos (by rw [List.length_map]; omega), hc]; rfl
theorem ordered_ok_0 {ls : List (Int × Int)} (h : ls.length ≤ 66) : m_ordered_lanes ls = some (sortP (ls.map nrm)) := by
  simp only [m_ordered_lanes]
  refine bd (forN_thru (fun pre => pre.map nrm) rfl fun pre x suf e => ?_) rfl
  have hl : pre.length ≤ 66 := by have := congrArg List.length e; rw [List.length_append] at this; omega
  simp only [m_ordered_lanes_b1]
  refine bd (app_ok (xs := pre.map nrm) (lt_big (by rw [List.length_map]; omega))) (by rw [List.map_append]; rfl)

/-- the neighbours of a place, in the order of the lanes -/
def nbOf (ls : List (Int × Int)) (p : Int) : List Int := ls.flatMap fun q => if q.1 = p then [q.2] else if q.2 = p then [q.1] else []
theorem nbOf_le (ls : List (Int × Int)) (p : Int) : (nbOf ls p).length ≤ ls.length := flat_le (fun q => by by_cases h1 : q.1 = p <;> by_cases h2 : q.2 = p <;> simp [h1, h2]) ls
def rowsOf (n : Nat) (ls : List (Int × Int)) : List (List Int) := (List.range n).map fun (k : Nat) => nbOf ls (k : Int)
theorem nbOf_app (ls : List (Int × Int)) (q : Int × Int) (p : Int) : nbOf (ls ++ [q]) p = nbOf ls p ++ (if q.1 = p then [q.2] else if q.2 = p then [q.1] else []) := by
  unfold nbOf
  rw [List.flatMap_append, List.flatMap_cons, List.flatMap_nil, List.append_nil]
theorem rowsOf_at {n : Nat} {ls : List (Int × Int)} {k : Nat} (h : k < n) : (rowsOf n ls)[k]? = some (nbOf ls (k : Int)) := by
  unfold rowsOf
  rw [List.getElem?_map, List.getElem?_range h]; rfl
theorem rowsOf_len (n : Nat) (ls : List (Int × Int)) : (rowsOf n ls).length = n := by unfold rowsOf; rw [List.length_map, List.length_range]
theorem appIn_ok {α : Type} {xs : List (List α)} {i : Int} {x : α} {row : List α} (h0 : 0 ≤ i) (hr : xs[i.toNat]? = some row) (hl : row.length ≤ 100000) : appIn xs i x = some (xs.set i.toNat (row ++ [x])) := by
  have hj : i.toNat < xs.length := (List.getElem?_eq_some_iff.mp hr).1
  unfold appIn ixN
  rw [if_pos h0, if_pos (by omega), Option.bind_some, hr, Option.bind_some, app_ok (lt_big hl)]; rfl
theorem joined_ok {n : Nat} {ls : List (Int × Int)} (hn : n ≤ 100) (hl : ls.length ≤ 66) (h : ∀ p ∈ ls, 0 ≤ p.1 ∧ p.1 < p.2 ∧ p.2 < n) : m_joined_places (n : Int) ls = some (rowsOf n ls) := by
  simp only [m_joined_places]
  rw [rngO_ok (by decide) (by decide) (by omega) (by omega)]; simp only [Option.bind_some]
  rw [forN_thru (f := m_joined_places_b1) (s0 := ([] : List (List Int))) (fun pre => (pre.map fun _ => ([] : List Int))) rfl (fun pre x suf e => by
    have hl2 : pre.length ≤ 100 := by have := congrArg List.length e; rw [List.length_append, rng_length] at this; omega
    simp only [m_joined_places_b1]
    exact bd (app_ok (xs := pre.map fun _ => ([] : List Int)) (lt_big (by rw [List.length_map]; omega))) (by rw [List.map_append]; rfl))]
  simp only [Option.bind_some]
  have e0 : (rng 0 (n : Int)).map (fun _ => ([] : List Int)) = rowsOf n [] := by
    unfold rowsOf rng
    rw [List.map_map]
    have : ((n : Int) - 0).toNat = n := by omega
    rw [this]; rfl
  rw [e0]
  rw [forN_thru (f := m_joined_places_b2) (rowsOf n) rfl (fun pre x suf e => by
    obtain ⟨h1, h2, h3⟩ := h x (mem_mid e)
    have hp : pre.length ≤ 66 := by have := congrArg List.length e; rw [List.length_append] at this; omega
    have k1 : x.1.toNat < n := by omega
    have k2 : x.2.toNat < n := by omega
    have i1 : ((x.1.toNat : Nat) : Int) = x.1 := by omega
    have i2 : ((x.2.toNat : Nat) : Int) = x.2 := by omega
    have r1 := rowsOf_at (ls := pre) k1
    have r2 := rowsOf_at (ls := pre) k2
    rw [i1] at r1; rw [i2] at r2
    simp only [m_joined_places_b2]
    refine bd (at_int h1 r1) ?_
    refine bd (appIn_ok h1 r1 (Nat.le_trans (nbOf_le _ _) (by omega))) ?_
    have r3 : ((rowsOf n pre).set x.1.toNat (nbOf pre x.1 ++ [x.2]))[x.2.toNat]? = some (nbOf pre x.2) := by
      rw [List.getElem?_set_ne (by omega)]; exact r2
    refine bd (at_int (by omega) r3) ?_
    refine bd (appIn_ok (by omega) r3 (Nat.le_trans (nbOf_le _ _) (by omega))) ?_
    congr 1
    apply List.ext_getElem?
    intro k
    by_cases hk : k < n
    · rw [rowsOf_at hk, nbOf_app]
      by_cases c2 : x.2.toNat = k
      · subst c2
        rw [List.getElem?_set_self (by rw [List.length_set, rowsOf_len]; exact hk), i2, if_neg (by omega), if_pos rfl]
      · rw [List.getElem?_set_ne c2]
        by_cases c1 : x.1.toNat = k
        · subst c1
          rw [List.getElem?_set_self (by rw [rowsOf_len]; exact hk), i1, if_pos rfl]
        · rw [List.getElem?_set_ne c1, rowsOf_at hk, if_neg (by omega), if_neg (by omega), List.append_nil]
    · rw [List.getElem?_eq_none (by rw [List.length_set, List.length_set, rowsOf_len]; omega), List.getElem?_eq_none (by rw [rowsOf_len]; omega)])]
  simp only [Option.bind_some]
  rw [forN_thru (f := m_joined_places_b3) (s0 := ([] : List (List Int))) (fun pre => pre) rfl (fun pre x suf e => by
    have hl2 : pre.length ≤ 100 := by have := congrArg List.length e; rw [List.length_append, rowsOf_len] at this; omega
    simp only [m_joined_places_b3]
    exact bd (app_ok (xs := pre) (lt_big (by omega))) rfl)]
  simp only [Option.bind_some]
theorem sortP_mem {xs : List (Int × Int)} {p : Int × Int} : p ∈ sortP xs ↔ p ∈ xs := (List.mergeSort_perm xs leP).mem_iff
theorem sortP_len {xs : List (Int × Int)} : (sortP xs).length = xs.length := (List.mergeSort_perm xs leP).length_eq
abbrev ChT := Int × List Int × List (Int × Int) × List Int × List Int × List (List Int)
/-- what a chart holds -/
def chOf (d : List Int) (ls : List (Int × Int)) (t hs : List Int) : ChT := ((d.length : Int), d, sortP (ls.map nrm), t, sortI hs, rowsOf d.length (sortP (ls.map nrm)))
theorem joined_of {n : Nat} {ls : List (Int × Int)} (hn : n ≤ 12) (h : LanesG n ls) : m_joined_places (n : Int) (sortP (ls.map nrm)) = some (rowsOf n (sortP (ls.map nrm))) :=
  joined_ok (by omega) (by rw [sortP_len, List.length_map]; exact h.2.2) (fun p hp => by
    rw [sortP_mem, List.mem_map] at hp
    obtain ⟨q, hq, rfl⟩ := hp
    exact h.1 q hq)

/-! ### lists that ascend -/
theorem asc_ext {α : Type} {r : α → α → Prop} (asy : ∀ a b, r a b → r b a → False) : ∀ {xs ys : List α}, xs.Pairwise r → ys.Pairwise r → (∀ a, a ∈ xs ↔ a ∈ ys) → xs = ys
  | [], [], _, _, _ => rfl
  | [], y :: ys, _, _, h => absurd ((h y).mpr (List.mem_cons_self ..)) List.not_mem_nil
  | x :: xs, [], _, _, h => absurd ((h x).mp (List.mem_cons_self ..)) List.not_mem_nil
  | x :: xs, y :: ys, h1, h2, h => by
    have p1 := List.pairwise_cons.mp h1
    have p2 := List.pairwise_cons.mp h2
    have e : x = y := by
      rcases List.mem_cons.mp ((h x).mp (List.mem_cons_self ..)) with e | e
      · exact e
      · rcases List.mem_cons.mp ((h y).mpr (List.mem_cons_self ..)) with e2 | e2
        · exact e2.symm
        · exact (asy _ _ (p1.1 y e2) (p2.1 x e)).elim
    subst e
    rw [asc_ext asy p1.2 p2.2 fun a => ?_]
    constructor
    · intro ha
      rcases List.mem_cons.mp ((h a).mp (List.mem_cons_of_mem _ ha)) with e | e
      · subst e; exact (asy _ _ (p1.1 a ha) (p1.1 a ha)).elim
      · exact e
    · intro ha
      rcases List.mem_cons.mp ((h a).mpr (List.mem_cons_of_mem _ ha)) with e | e
      · subst e; exact (asy _ _ (p2.1 a ha) (p2.1 a ha)).elim
      · exact e
theorem asc_extI {xs ys : List Int} (h1 : xs.Pairwise (· < ·)) (h2 : ys.Pairwise (· < ·)) (h : ∀ a, a ∈ xs ↔ a ∈ ys) : xs = ys := asc_ext (fun a b h h' => by omega) h1 h2 h
def ltP (a b : Int × Int) : Prop := a.1 < b.1 ∨ (a.1 = b.1 ∧ a.2 < b.2)
theorem asc_extP {xs ys : List (Int × Int)} (h1 : xs.Pairwise ltP) (h2 : ys.Pairwise ltP) (h : ∀ a, a ∈ xs ↔ a ∈ ys) : xs = ys := asc_ext (fun a b h h' => by unfold ltP at *; omega) h1 h2 h
theorem pw_flat {α β : Type} {r : β → β → Prop} {f : α → List β} : ∀ {xs : List α}, (∀ a ∈ xs, (f a).Pairwise r) → xs.Pairwise (fun a b => ∀ x ∈ f a, ∀ y ∈ f b, r x y) → (xs.flatMap f).Pairwise r
  | [], _, _ => .nil
  | a :: xs, h1, h2 => by
    have pc := List.pairwise_cons.mp h2
    rw [List.flatMap_cons, List.pairwise_append]
    refine ⟨h1 a (List.mem_cons_self ..), pw_flat (fun b hb => h1 b (List.mem_cons_of_mem _ hb)) pc.2, fun x hx y hy => ?_⟩
    obtain ⟨b, hb, hyb⟩ := List.mem_flatMap.mp hy
    exact pc.1 b hb x hx y hyb
theorem pw_imp {α : Type} {r q : α → α → Prop} : ∀ {xs : List α}, xs.Pairwise r → (∀ a ∈ xs, ∀ b ∈ xs, r a b → q a b) → xs.Pairwise q
  | [], _, _ => .nil
  | x :: xs, h, k => by
    have pc := List.pairwise_cons.mp h
    exact List.pairwise_cons.mpr ⟨fun y hy => k x (List.mem_cons_self ..) y (List.mem_cons_of_mem _ hy) (pc.1 y hy), pw_imp pc.2 fun a ha b hb => k a (List.mem_cons_of_mem _ ha) b (List.mem_cons_of_mem _ hb)⟩
theorem pw_and {α : Type} {r q : α → α → Prop} : ∀ {xs : List α}, xs.Pairwise r → xs.Pairwise q → xs.Pairwise (fun a b => r a b ∧ q a b)
  | [], _, _ => .nil
  | x :: xs, h, k => by
    have p1 := List.pairwise_cons.mp h
    have p2 := List.pairwise_cons.mp k
    exact List.pairwise_cons.mpr ⟨fun y hy => ⟨p1.1 y hy, p2.1 y hy⟩, pw_and p1.2 p2.2⟩
theorem leP_mi {a b : Int × Int} : leP a b = true ↔ (a.1 < b.1 ∨ (a.1 = b.1 ∧ a.2 ≤ b.2)) := by unfold leP; exact decide_eq_true_iff
theorem sortP_lt {xs : List (Int × Int)} (h : xs.Nodup) : (sortP xs).Pairwise ltP := by
  have h1 : (sortP xs).Pairwise (fun a b => leP a b = true) := List.pairwise_mergeSort (le := leP) (fun a b c h1 h2 => by rw [leP_mi] at *; omega) (fun a b => by rw [Bool.or_eq_true, leP_mi, leP_mi]; omega) xs
  have h2 : (sortP xs).Nodup := (List.mergeSort_perm xs leP).nodup_iff.mpr h
  exact List.Pairwise.imp (fun {a b} z => by
    have z1 := leP_mi.mp z.1
    have z2 : a ≠ b := z.2
    unfold ltP
    by_cases e : a.1 = b.1
    · by_cases e2 : a.2 = b.2
      · exact absurd (Prod.ext e e2) z2
      · omega
    · omega) (pw_and h1 h2)
theorem nb_mem {ls : List (Int × Int)} (hl : ∀ p ∈ ls, p.1 < p.2) {p q : Int} : q ∈ nbOf ls p ↔ ((p, q) ∈ ls ∨ (q, p) ∈ ls) := by
  unfold nbOf
  rw [List.mem_flatMap]
  constructor
  · rintro ⟨l, h1, h2⟩
    by_cases c1 : l.1 = p
    · rw [if_pos c1, List.mem_singleton] at h2
      exact .inl (by rw [show (p, q) = l from Prod.ext c1.symm h2]; exact h1)
    · rw [if_neg c1] at h2
      by_cases c2 : l.2 = p
      · rw [if_pos c2, List.mem_singleton] at h2
        exact .inr (by rw [show (q, p) = l from Prod.ext h2 c2.symm]; exact h1)
      · rw [if_neg c2] at h2; exact absurd h2 List.not_mem_nil
  · rintro (h | h)
    · exact ⟨_, h, by rw [if_pos rfl]; exact List.mem_singleton.mpr rfl⟩
    · have := hl _ h
      exact ⟨_, h, by rw [if_neg (by show ¬ q = p; simp only at this; omega), if_pos rfl]; exact List.mem_singleton.mpr rfl⟩
theorem nb_asc {ls : List (Int × Int)} (hl : ∀ p ∈ ls, p.1 < p.2) (hs : ls.Pairwise ltP) (p : Int) : (nbOf ls p).Pairwise (· < ·) := by
  unfold nbOf
  refine pw_flat (fun a _ => ?_) (pw_imp hs fun a ha b hb hab x hx y hy => ?_)
  · by_cases c1 : a.1 = p
    · rw [if_pos c1]; exact List.pairwise_singleton ..
    · rw [if_neg c1]
      by_cases c2 : a.2 = p
      · rw [if_pos c2]; exact List.pairwise_singleton ..
      · rw [if_neg c2]; exact .nil
  · have a1 := hl a ha
    have b1 := hl b hb
    unfold ltP at hab
    by_cases c1 : a.1 = p <;> by_cases c2 : a.2 = p <;> by_cases c3 : b.1 = p <;> by_cases c4 : b.2 = p <;> simp [c1, c2, c3, c4] at hx hy <;> omega
theorem LanesG.map {n : Int} {ls : List (Int × Int)} (h : LanesG n ls) : ∀ p ∈ ls.map nrm, 0 ≤ p.1 ∧ p.1 < p.2 ∧ p.2 < n := fun p hp => by
  obtain ⟨q, hq, rfl⟩ := List.mem_map.mp hp
  exact h.1 q hq
/-- the neighbours that a chart tells -/
theorem nb_spec {n : Int} {ls : List (Int × Int)} (h : LanesG n ls) (p : Int) : (nbOf (sortP (ls.map nrm)) p).Pairwise (· < ·) ∧ ∀ q, q ∈ nbOf (sortP (ls.map nrm)) p ↔ ((p, q) ∈ ls.map nrm ∨ (q, p) ∈ ls.map nrm) := by
  have hl : ∀ p ∈ sortP (ls.map nrm), p.1 < p.2 := fun p hp => (h.map p (sortP_mem.mp hp)).2.1
  exact ⟨nb_asc hl (sortP_lt h.2.1) p, fun q => by rw [nb_mem hl, sortP_mem, sortP_mem]⟩
theorem sub_lanes {n : Int} {ls ks : List (Int × Int)} (h : LanesU n ls) (s : ks.Sublist ls) : LanesU n ks := ⟨fun p hp => h.1 p (s.subset hp), s.nodup h.2.1, Nat.le_trans s.length_le h.2.2⟩
theorem thinned_ok {h : List Int} (hh : Hd h) {n m : Int} {ls : List (Int × Int)} (hl : LanesU n ls) (m0 : 1 ≤ m) (m1 : m ≤ 1000) : ∃ ks h', m_l_thinned h ls m = some (ks, h') ∧ LanesU n ks ∧ Hd h' := by
  simp only [m_l_thinned, pyLet]
  obtain ⟨a, h1, e1, a0, a1, hh1⟩ := pick_ok hh (n := m) m0 (by omega)
  rw [e1]; simp only [Option.bind_some]
  obtain ⟨u, eu, u1, u2⟩ := forN_ind (f := m_l_thinned_b1 (1 + a)) (xs := ls) (s0 := (([] : List (Int × Int)), h1)) (fun pre t => Hd t.2 ∧ t.1.Sublist pre) ⟨hh1, List.Sublist.refl _⟩ (fun pre x suf t e hp => by
    obtain ⟨t1, t2⟩ := hp
    have hpl : pre.length ≤ 66 := by have := congrArg List.length e; rw [List.length_append] at this; have := hl.2.2; omega
    have htl := t2.length_le
    obtain ⟨z, h5, e7, z0, z1, hh5⟩ := pick_ok t1 (n := 1 + a) (by omega) (by omega)
    simp only [m_l_thinned_b1]
    rw [e7]; simp only [Option.bind_some]
    by_cases c : z = 0
    · exact ⟨_, ift (decide_eq_true c) (bd (app_ok (xs := t.1) (lt_big (by omega))) rfl), hh5, t2.append (List.Sublist.refl _)⟩
    · exact ⟨_, iff' (decide_eq_false c) rfl, hh5, t2.trans (List.sublist_append_left _ _)⟩)
  rw [eu]; simp only [Option.bind_some]
  exact ⟨_, _, rfl, sub_lanes hl u2, u1⟩
theorem filt_mem {f : Int → Bool} {n x : Int} : x ∈ (rng 0 n).flatMap (fun x => if f x = true then [x] else []) ↔ (0 ≤ x ∧ x < n) ∧ f x = true := by
  rw [List.mem_flatMap]
  constructor
  · rintro ⟨y, h1, h2⟩
    by_cases c : f y = true
    · rw [if_pos c, List.mem_singleton] at h2; subst h2; exact ⟨mem_rng.mp h1, c⟩
    · rw [if_neg c] at h2; exact absurd h2 List.not_mem_nil
  · rintro ⟨h1, h2⟩
    exact ⟨x, mem_rng.mpr h1, by rw [if_pos h2]; exact List.mem_singleton.mpr rfl⟩
theorem filt_lt (f : Int → Bool) (n : Int) : ((rng 0 n).flatMap (fun x => if f x = true then [x] else [])).Pairwise (· < ·) :=
  (pairwise_flat (r := (· < ·)) (h := fun x : Int => if f x = true then [x] else []) (fun x => by by_cases h : f x = true <;> simp [h]) (rng_lt 0 n)).1

theorem erase_perm {α : Type} : ∀ (xs : List α) (k : Nat) (h : k < xs.length), (xs[k] :: xs.eraseIdx k).Perm xs
  | [], _, h => absurd h (Nat.not_lt_zero _)
  | x :: xs, 0, _ => List.Perm.refl _
  | x :: xs, k + 1, h => by
    show (xs[k]'(Nat.lt_of_succ_lt_succ h) :: x :: xs.eraseIdx k).Perm (x :: xs)
    exact (List.Perm.swap _ _ _).trans (List.Perm.cons x (erase_perm xs k (Nat.lt_of_succ_lt_succ h)))
theorem popAt_perm {α : Type} {xs : List α} {i : Int} (h0 : 0 ≤ i) (h1 : i < xs.length) : ∃ x, popAt xs i = some (x, xs.eraseIdx i.toNat) ∧ (x :: xs.eraseIdx i.toNat).Perm xs := by
  have hj : i.toNat < xs.length := by omega
  refine ⟨xs[i.toNat], ?_, erase_perm xs _ hj⟩
  unfold popAt ixN
  rw [if_pos h0, if_pos h1, Option.bind_some, List.getElem?_eq_getElem hj]
  rfl
theorem stirred_ok_0 {h : List Int} (hh : Hd h) {ls : List Int} (hl : ls.length ≤ 66) : ∃ ks h', m_l_stirred h ls = some (ks, h') ∧ ks.Perm ls ∧ Hd h' := by
  simp only [m_l_stirred]
  rw [rngO_ok (by decide) (by decide) (by omega) (by omega)]; simp only [Option.bind_some]
  obtain ⟨u, eu, u1, u2, u3⟩ := forN_ind (f := m_l_stirred_b1) (xs := rng 0 (ls.length : Int)) (s0 := (h, ls, ([] : List Int))) (fun pre t => Hd t.1 ∧ t.2.1.length + pre.length = ls.length ∧ (t.2.2 ++ t.2.1).Perm ls) ⟨hh, rfl, List.Perm.refl _⟩ (fun pre x suf t e hp => by
    obtain ⟨t1, t2, t3⟩ := hp
    have hpl : pre.length < ls.length := by have := congrArg List.length e; rw [List.length_append, rng_length, List.length_cons] at this; omega
    have ho : t.2.2.length ≤ 66 := by have := t3.length_eq; rw [List.length_append] at this; omega
    obtain ⟨z, h5, e7, z0, z1, hh5⟩ := pick_ok t1 (n := (t.2.1.length : Int)) (by omega) (by omega)
    obtain ⟨y, ey, py⟩ := popAt_perm z0 z1
    simp only [m_l_stirred_b1]
    rw [e7]; simp only [Option.bind_some]
    refine ⟨_, bd (guard_ok (decide_eq_true (le_big (by omega)))) (bd ey (bd (app_ok (xs := t.2.2) (lt_big (by omega))) rfl)), hh5, ?_, ?_⟩
    · have := py.length_eq; rw [List.length_cons] at this; rw [List.length_append]; show (t.2.1.eraseIdx z.toNat).length + (pre.length + 1) = _; omega
    · show ((t.2.2 ++ [y]) ++ t.2.1.eraseIdx z.toNat).Perm ls
      rw [List.append_assoc]
      exact (List.Perm.append_left _ py).trans t3)
  rw [eu]; simp only [Option.bind_some]
  rw [rng_length] at u2
  have hz : u.2.1 = [] := List.length_eq_zero_iff.mp (by omega)
  rw [hz, List.append_nil] at u3
  exact ⟨_, _, rfl, u3, u1⟩

theorem init_ok {d t hs : List Int} {ls : List (Int × Int)} (hd : DeepOk d) (hl : LanesG d.length ls) (ht : TideOk t) (hh : HarbG d.length hs) : m_Chart_init d ls t hs = some (chOf d ls t hs) := by
  simp only [m_Chart_init]
  refine bd (depths_ok_0 hd) (iff' rfl ?_)
  refine bd (lanes_ok_0 hl) (iff' rfl ?_)
  refine bd (tide_ok_0 ht) (iff' rfl ?_)
  refine bd (harb_ok_0 hh) (iff' rfl ?_)
  refine bd (ordered_ok_0 hl.2.2) ?_
  exact bd (joined_of hd.2.1 hl) rfl
theorem chart_ok {s : SeaT} (h : SeaOk s) : m_l_chart s = some (chOf s.1 s.2.1 s.2.2.1 s.2.2.2) := by
  simp only [m_l_chart]
  exact bd (init_ok h.1 h.2.1.g h.2.2.1 (h.2.2.2.g h.1.2.1)) rfl
/-! ### the lanes of a line -/
theorem strung_ok {h : List Int} (hh : Hd h) {n : Nat} {ls : List (Int × Int)} (hn0 : 1 ≤ n) (hn : n ≤ 12) (hl : LanesU n ls) : ∃ ks h', m_l_strung h ls n = some (ks, h') ∧ LanesU n ks ∧ Hd h' := by
  simp only [m_l_strung]
  obtain ⟨a, h1, e1, a0, a1, hh1⟩ := pick_ok hh (n := 8) (by decide) (by decide)
  refine bdP e1 ?_
  by_cases c : a = 1
  · refine iffP (by simp [c]) ?_
    refine bdP (rngL_ok (lo := 0) (hi := (n : Int)) (by decide) (by decide) (by omega) (by omega) (by omega)) ?_
    obtain ⟨o, h2, e2, po, hh2⟩ := stirred_ok_0 hh1 (ls := rng 0 (n : Int)) (by rw [rng_length]; omega)
    refine bdP e2 ?_
    refine bdP (rngO_ok (lo := 0) (hi := (n : Int) - 1) (by decide) (by decide) (by omega) (by omega)) ?_
    have ol : o.length = n := by rw [po.length_eq, rng_length]; omega
    have ond : o.Nodup := po.nodup_iff.mpr (lt_nodup (rng_lt 0 _))
    have og : ∀ i : Int, 0 ≤ i → i < n → ∃ x, at_ o i = some x ∧ o[i.toNat]? = some x ∧ 0 ≤ x ∧ x < n := fun i i0 i1 => by
      obtain ⟨x, ex, gx⟩ := at_some (xs := o) i0 (by omega)
      have := mem_rng.mp (po.mem_iff.mp (List.mem_of_getElem? gx))
      exact ⟨x, ex, gx, this.1, this.2⟩
    have oinj : ∀ (i j : Int) (x : Int), 0 ≤ i → i < n → 0 ≤ j → j < n → o[i.toNat]? = some x → o[j.toNat]? = some x → i = j := fun i j x i0 i1 j0 j1 gi gj => by
      have hne := List.pairwise_iff_getElem.mp ond
      obtain ⟨hi, gi⟩ := List.getElem?_eq_some_iff.mp gi
      obtain ⟨hj, gj⟩ := List.getElem?_eq_some_iff.mp gj
      by_cases c1 : i.toNat < j.toNat
      · exact absurd (gi.trans gj.symm) (hne _ _ hi hj c1)
      · by_cases c2 : j.toNat < i.toNat
        · exact absurd (gj.trans gi.symm) (hne _ _ hj hi c2)
        · omega
    let ln : Int → Int × Int := fun k => nrm (o[k.toNat]?.getD 0, o[(k + 1).toNat]?.getD 0)
    have hf : forN (m_l_strung_b1 (o, h2)) ([] : List (Int × Int)) (rng 0 ((n : Int) - 1)) = some ((rng 0 ((n : Int) - 1)).map ln) := by
      refine forN_thru (fun pre => pre.map ln) rfl fun pre x suf e => ?_
      have hx := mem_rng.mp (mem_mid e)
      have hp : pre.length ≤ 12 := by have := congrArg List.length e; rw [List.length_append, rng_length] at this; omega
      obtain ⟨y, ey, gy, _⟩ := og x hx.1 (by omega)
      obtain ⟨z, ez, gz, _⟩ := og (x + 1) (by omega) (by omega)
      simp only [m_l_strung_b1]
      refine bd ey (bd ez (bd ey (bd ez (bd (app_ok (xs := pre.map ln) (lt_big (by rw [List.length_map]; omega))) ?_))))
      rw [List.map_append]
      show some (pre.map ln ++ [nrm (y, z)]) = some (pre.map ln ++ [ln x])
      have : ln x = nrm (y, z) := by show nrm (o[x.toNat]?.getD 0, o[(x + 1).toNat]?.getD 0) = _; rw [gy, gz]; rfl
      rw [this]
    refine bdP hf ?_
    refine ⟨_, _, rfl, ⟨fun p hp => ?_, ?_, ?_⟩, hh2⟩
    · obtain ⟨k, hk, rfl⟩ := List.mem_map.mp hp
      have hk := mem_rng.mp hk
      obtain ⟨y, _, gy, y0, y1⟩ := og k hk.1 (by omega)
      obtain ⟨z, _, gz, z0, z1⟩ := og (k + 1) (by omega) (by omega)
      have hyz : y ≠ z := fun e => by
        subst e
        have := oinj k (k + 1) y hk.1 (by omega) (by omega) (by omega) gy gz
        omega
      show 0 ≤ (nrm (o[k.toNat]?.getD 0, o[(k + 1).toNat]?.getD 0)).1 ∧ _
      show 0 ≤ (nrm (o[k.toNat]?.getD 0, o[(k + 1).toNat]?.getD 0)).1 ∧ (nrm (o[k.toNat]?.getD 0, o[(k + 1).toNat]?.getD 0)).1 < (nrm (o[k.toNat]?.getD 0, o[(k + 1).toNat]?.getD 0)).2 ∧ (nrm (o[k.toNat]?.getD 0, o[(k + 1).toNat]?.getD 0)).2 < _
      rw [gy, gz]
      show 0 ≤ min y z ∧ min y z < max y z ∧ max y z < _
      omega
    · show ((rng 0 ((n : Int) - 1)).map ln).Pairwise (· ≠ ·)
      rw [List.pairwise_map]
      refine pw_imp (rng_lt 0 _) fun j hj k hk hjk e => ?_
      have hj := mem_rng.mp hj
      have hk := mem_rng.mp hk
      obtain ⟨y, _, gy, _⟩ := og j hj.1 (by omega)
      obtain ⟨z, _, gz, _⟩ := og (j + 1) (by omega) (by omega)
      obtain ⟨u, _, gu, _⟩ := og k hk.1 (by omega)
      obtain ⟨v, _, gv, _⟩ := og (k + 1) (by omega) (by omega)
      have e2 : nrm (y, z) = nrm (u, v) := by
        have e3 : nrm (o[j.toNat]?.getD 0, o[(j + 1).toNat]?.getD 0) = nrm (o[k.toNat]?.getD 0, o[(k + 1).toNat]?.getD 0) := e
        rw [gy, gz, gu, gv] at e3; exact e3
      have e4 : min y z = min u v := congrArg Prod.fst e2
      have e5 : max y z = max u v := congrArg Prod.snd e2
      have e6 : y = u ∨ y = v := by omega
      rcases e6 with e6 | e6
      · subst e6; have := oinj j k y hj.1 (by omega) hk.1 (by omega) gy gu; omega
      · subst e6; have := oinj j (k + 1) y hj.1 (by omega) (by omega) (by omega) gy gv; omega
    · rw [List.length_map, rng_length]; omega
  · refine iftP (by simp [c]) ?_
    exact ⟨_, _, rfl, hl, hh1⟩
/-! ### one turn -/
def gB (xs : List Bool) (p : Int) : Bool := xs[p.toNat]?.getD false
def gO (xs : List (Option Int)) (p : Int) : Option Int := xs[p.toNat]?.getD none
theorem gB_at {xs : List Bool} {p : Int} (h0 : 0 ≤ p) (h1 : p < xs.length) : at_ xs p = some (gB xs p) := at_get h0 h1
theorem gO_at {xs : List (Option Int)} {p : Int} (h0 : 0 ≤ p) (h1 : p < xs.length) : at_ xs p = some (gO xs p) := at_get h0 h1
def wetL (d t : List Int) (deep w : Int) : List Bool := d.map fun x => decide (deep ≤ x + t[(w % (t.length : Int)).toNat]?.getD 0)
def hereB (W : List Bool) (hrs : List (Option Int)) (p : Int) : Bool := gB W p && (gO hrs p).isSome
def condB (ls : List (Int × Int)) (W : List Bool) (hrs : List (Option Int)) (p : Int) : Bool := gB W p && ((gO hrs p).isNone && (nbOf (sortP (ls.map nrm)) p).any (hereB W hrs))
def nextH (n : Nat) (c : Int → Bool) (v : Option Int) (hrs : List (Option Int)) : List (Option Int) := (List.range n).map fun (k : Nat) => if c (k : Int) = true then v else gO hrs (k : Int)
theorem nextH_len (n : Nat) (c : Int → Bool) (v : Option Int) (hrs : List (Option Int)) : (nextH n c v hrs).length = n := by unfold nextH; rw [List.length_map, List.length_range]
theorem nextH_at {n : Nat} {c : Int → Bool} {v : Option Int} {hrs : List (Option Int)} {k : Nat} (h : k < n) : (nextH n c v hrs)[k]? = some (if c (k : Int) = true then v else gO hrs (k : Int)) := by
  unfold nextH
  rw [List.getElem?_map, List.getElem?_range h]; rfl
theorem nextH_none {n : Nat} {v : Option Int} {hrs : List (Option Int)} (h : hrs.length = n) : nextH n (fun _ => false) v hrs = hrs := by
  apply List.ext_getElem?
  intro k
  by_cases hk : k < n
  · rw [nextH_at hk, if_neg Bool.false_ne_true]
    unfold gO
    rw [Int.toNat_natCast, List.getElem?_eq_getElem (by omega)]; rfl
  · rw [List.getElem?_eq_none (by rw [nextH_len]; omega), List.getElem?_eq_none (by omega)]
theorem nextH_set {n : Nat} {c c' : Int → Bool} {v : Option Int} {hrs : List (Option Int)} {x : Int} (h0 : 0 ≤ x) (h1 : x < n) (hx : c' x = true) (hc : ∀ y : Int, 0 ≤ y → y < n → y ≠ x → c' y = c y) : (nextH n c v hrs).set x.toNat v = nextH n c' v hrs := by
  apply List.ext_getElem?
  intro k
  by_cases hk : k < n
  · by_cases e : x.toNat = k
    · subst e
      rw [List.getElem?_set_self (by rw [nextH_len]; exact hk), nextH_at hk, Int.toNat_of_nonneg h0, if_pos hx]
    · rw [List.getElem?_set_ne e, nextH_at hk, nextH_at hk, hc k (by omega) (by omega) (by omega)]
  · rw [List.getElem?_eq_none (by rw [List.length_set, nextH_len]; omega), List.getElem?_eq_none (by rw [nextH_len]; omega)]
theorem nextH_congr {n : Nat} {c c' : Int → Bool} {v : Option Int} {hrs : List (Option Int)} (hc : ∀ y : Int, 0 ≤ y → y < n → c' y = c y) : nextH n c v hrs = nextH n c' v hrs := by
  unfold nextH
  apply List.map_congr_left
  intro k hk
  rw [hc k (by omega) (by have := List.mem_range.mp hk; omega)]
theorem gO_next {n : Nat} {c : Int → Bool} {v : Option Int} {hrs : List (Option Int)} {p : Int} (h0 : 0 ≤ p) (h1 : p < n) : gO (nextH n c v hrs) p = if c p = true then v else gO hrs p := by
  show (nextH n c v hrs)[p.toNat]?.getD none = _
  rw [nextH_at (by omega), Int.toNat_of_nonneg h0]; rfl
theorem forR_any {α : Type} {f : Unit → α → Option (Bool ⊕ Unit)} (g : α → Bool) : ∀ {xs : List α}, (∀ x ∈ xs, f () x = some (if g x = true then .inl true else .inr ())) → forR f () xs = some (if xs.any g = true then .inl true else .inr ())
  | [], _ => rfl
  | x :: xs, h => by
    have hx := h x (List.mem_cons_self ..)
    by_cases c : g x = true
    · rw [if_pos c] at hx
      rw [List.any_cons, c, Bool.true_or, if_pos rfl]
      show (f () x).bind _ = _
      rw [hx]; rfl
    · rw [if_neg c] at hx
      rw [forR_step hx, List.any_cons, show g x = false from bf c, Bool.false_or]
      exact forR_any g fun y hy => h y (List.mem_cons_of_mem _ hy)
theorem forN_par {α σ : Type} {f g : σ → α → Option σ} (P : σ → Prop) : ∀ {xs : List α} {s : σ}, P s → (∀ s x, x ∈ xs → P s → ∃ s', f s x = some s' ∧ g s x = some s' ∧ P s') → ∃ e, forN f s xs = some e ∧ forN g s xs = some e ∧ P e
  | [], s, h0, _ => ⟨s, rfl, rfl, h0⟩
  | x :: xs, s, h0, h => by
    obtain ⟨s', e1, e2, p⟩ := h s x (List.mem_cons_self ..) h0
    obtain ⟨e, h1, h2, h3⟩ := forN_par (f := f) (g := g) P (xs := xs) p fun s y hy => h s y (List.mem_cons_of_mem _ hy)
    exact ⟨e, by rw [forN_cons, e1]; exact h1, by rw [forN_cons, e2]; exact h2, h3⟩
section
variable {s : SeaT} (hs : SeaOk s)
include hs
theorem prog_step {deep w : Int} {hrs : List (Option Int)} (hl : hrs.length = s.1.length) : m_arrivals_b1 (chOf s.1 s.2.1 s.2.2.1 s.2.2.2) deep hrs w = some (nextH s.1.length (condB s.2.1 (wetL s.1 s.2.2.1 deep w) hrs) (some (w + 1)) hrs) := by
  have dl := hs.1.2.1
  have tl := hs.2.2.1.1
  have wl : (wetL s.1 s.2.2.1 deep w).length = s.1.length := by unfold wetL; rw [List.length_map]
  simp only [m_arrivals_b1]
  -- open places
  have m0 := Int.emod_nonneg w (show (s.2.2.1.length : Int) ≠ 0 by omega)
  have m1 := Int.emod_lt_of_pos w (show 0 < (s.2.2.1.length : Int) by omega)
  have h1 : m_open_places (chOf s.1 s.2.1 s.2.2.1 s.2.2.2) deep w = some (wetL s.1 s.2.2.1 deep w) := by
    simp only [m_open_places]
    refine bd (rngO_ok (by decide) (by decide) (by simp only [chOf]; omega) (by simp only [chOf]; omega)) ?_
    have z := forN_thru (f := m_open_places_b1 (chOf s.1 s.2.1 s.2.2.1 s.2.2.2) deep w) (xs := rng 0 (s.1.length : Int)) (s0 := ([] : List Bool)) (fun pre => pre.map fun p => gB (wetL s.1 s.2.2.1 deep w) p) rfl (fun pre x suf e => by
      have hx := mem_rng.mp (mem_mid e)
      have hp : pre.length ≤ 12 := by have := congrArg List.length e; rw [List.length_append, rng_length] at this; omega
      simp only [m_open_places_b1, m_Chart_water, chOf]
      refine bd (bd (at_get (d := 0) hx.1 hx.2) (bd (mod_ok (by omega)) (bd (at_get (d := 0) m0 m1) rfl))) ?_
      refine bd (app_ok (xs := pre.map _) (lt_big (by rw [List.length_map]; omega))) ?_
      rw [List.map_append]
      congr 2
      show [_] = [gB (wetL s.1 s.2.2.1 deep w) x]
      congr 1
      unfold gB wetL
      rw [List.getElem?_map, List.getElem?_eq_getElem (by omega)]
      rfl)
    have e : (rng 0 (s.1.length : Int)).map (fun p => gB (wetL s.1 s.2.2.1 deep w) p) = wetL s.1 s.2.2.1 deep w := by
      apply List.ext_getElem?
      intro k
      unfold rng
      rw [List.map_map, List.getElem?_map]
      by_cases hk : k < s.1.length
      · rw [List.getElem?_range (by omega), List.getElem?_eq_getElem (l := wetL s.1 s.2.2.1 deep w) (by omega)]
        show some (gB _ (0 + (k : Int))) = _
        unfold gB
        rw [show (0 + (k : Int)).toNat = k by omega, List.getElem?_eq_getElem (by omega)]; rfl
      · rw [List.getElem?_eq_none (l := List.range _) (by rw [List.length_range]; omega), List.getElem?_eq_none (l := wetL s.1 s.2.2.1 deep w) (by omega)]; rfl
    rw [e] at z
    exact bd z rfl
  refine bd h1 ?_
  -- newly reached
  have h2 : ∃ ks, m_newly_reached (chOf s.1 s.2.1 s.2.2.1 s.2.2.2) hrs (wetL s.1 s.2.2.1 deep w) = some ks ∧ ∀ x, x ∈ ks ↔ (0 ≤ x ∧ x < s.1.length) ∧ condB s.2.1 (wetL s.1 s.2.2.1 deep w) hrs x = true := by
    simp only [m_newly_reached]
    have z1 := forN_thru (f := m_newly_reached_b1 hrs (wetL s.1 s.2.2.1 deep w)) (xs := rng 0 (s.1.length : Int)) (s0 := ([] : List Bool)) (fun pre => pre.map fun p => hereB (wetL s.1 s.2.2.1 deep w) hrs p) rfl (fun pre x suf e => by
      have hx := mem_rng.mp (mem_mid e)
      have hp : pre.length ≤ 12 := by have := congrArg List.length e; rw [List.length_append, rng_length] at this; omega
      simp only [m_newly_reached_b1]
      refine bd (gB_at hx.1 (by omega)) ?_
      refine bd (x := hereB (wetL s.1 s.2.2.1 deep w) hrs x) ?_ (bd (app_ok (xs := pre.map _) (lt_big (by rw [List.length_map]; omega))) (by rw [List.map_append]; rfl))
      unfold hereB
      by_cases c : gB (wetL s.1 s.2.2.1 deep w) x = true
      · rw [c]; exact bd (gO_at hx.1 (by omega)) rfl
      · rw [show gB (wetL s.1 s.2.2.1 deep w) x = false from bf c]; rfl)
    refine bdE (rngO_ok (by decide) (by decide) (by simp only [chOf]; omega) (by simp only [chOf]; omega)) ?_
    refine bdE z1 ?_
    refine bdE (rngO_ok (by decide) (by decide) (by simp only [chOf]; omega) (by simp only [chOf]; omega)) ?_
    have z2 := forN_flat (f := m_newly_reached_b2 (chOf s.1 s.2.1 s.2.2.1 s.2.2.2) hrs (wetL s.1 s.2.2.1 deep w) ((rng 0 (s.1.length : Int)).map fun p => hereB (wetL s.1 s.2.2.1 deep w) hrs p)) (xs := rng 0 (s.1.length : Int)) (acc := ([] : List Int)) (fun x => if condB s.2.1 (wetL s.1 s.2.2.1 deep w) hrs x = true then [x] else []) (fun x => by split <;> simp) (le_big (by rw [rng_length]; show 0 + _ ≤ _; omega)) (fun acc x hx hb => by
      have hx := mem_rng.mp hx
      simp only [m_newly_reached_b2]
      refine bd (x := condB s.2.1 (wetL s.1 s.2.2.1 deep w) hrs x) ?_ ?_
      · refine bd (gB_at hx.1 (by omega)) ?_
        unfold condB
        by_cases c : gB (wetL s.1 s.2.2.1 deep w) x = true
        · rw [c]
          refine ift rfl (bd (gO_at hx.1 (by omega)) ?_)
          by_cases c2 : (gO hrs x).isNone = true
          · rw [c2]
            refine ift rfl ?_
            have ht : m_touches (chOf s.1 s.2.1 s.2.2.1 s.2.2.2) x ((rng 0 (s.1.length : Int)).map fun p => hereB (wetL s.1 s.2.2.1 deep w) hrs p) = some ((nbOf (sortP (s.2.1.map nrm)) x).any (hereB (wetL s.1 s.2.2.1 deep w) hrs)) := by
              simp only [m_touches, m_Chart_neighbours, chOf]
              have er : at_ (rowsOf s.1.length (sortP (s.2.1.map nrm))) x = some (nbOf (sortP (s.2.1.map nrm)) x) := at_int hx.1 (by rw [rowsOf_at (by omega), Int.toNat_of_nonneg hx.1])
              refine bd (bd er rfl) ?_
              have nl : (nbOf (sortP (s.2.1.map nrm)) x).length ≤ 66 := Nat.le_trans (nbOf_le _ _) (by rw [sortP_len, List.length_map]; exact hs.2.1.2.2)
              have z3 := forN_thru (f := m_touches_b1 ((rng 0 (s.1.length : Int)).map fun p => hereB (wetL s.1 s.2.2.1 deep w) hrs p)) (xs := nbOf (sortP (s.2.1.map nrm)) x) (s0 := ([] : List Bool)) (fun pre => pre.map (hereB (wetL s.1 s.2.2.1 deep w) hrs)) rfl (fun pre y suf e => by
                have hy := ((nb_spec hs.2.1.g x).2 y).mp (mem_mid e)
                have hyb : 0 ≤ y ∧ y < s.1.length := by
                  rcases hy with hy | hy
                  · have := hs.2.1.g.map _ hy; simp only at this; omega
                  · have := hs.2.1.g.map _ hy; simp only at this; omega
                have hp : pre.length ≤ 66 := by have := congrArg List.length e; rw [List.length_append] at this; omega
                simp only [m_touches_b1]
                have ea : at_ ((rng 0 (s.1.length : Int)).map fun p => hereB (wetL s.1 s.2.2.1 deep w) hrs p) y = some (hereB (wetL s.1 s.2.2.1 deep w) hrs y) := by
                  refine at_int hyb.1 ?_
                  unfold rng
                  rw [List.map_map, List.getElem?_map, List.getElem?_range (by omega)]
                  show some (hereB _ _ (0 + ((y.toNat : Nat) : Int))) = _
                  rw [show (0 + ((y.toNat : Nat) : Int)) = y by omega]
                exact bd ea (bd (app_ok (xs := pre.map _) (lt_big (by rw [List.length_map]; omega))) (by rw [List.map_append]; rfl)))
              refine bd z3 ?_
              rw [List.any_map]; rfl
            exact bd ht rfl
          · rw [show (gO hrs x).isNone = false from bf c2]; rfl
        · rw [show gB (wetL s.1 s.2.2.1 deep w) x = false from bf c]; rfl
      · by_cases c : condB s.2.1 (wetL s.1 s.2.2.1 deep w) hrs x = true
        · rw [if_pos c, if_pos c, app_ok hb]; rfl
        · rw [if_neg c, if_neg c, List.append_nil])
    rw [List.nil_append] at z2
    exact ⟨_, bd z2 rfl, fun x => filt_mem⟩
  obtain ⟨ks, e2, k2⟩ := h2
  refine bd e2 ?_
  have z := forN_thru (f := m_arrivals_b2 w) (xs := ks) (s0 := hrs) (fun pre => nextH s.1.length (fun p => pre.contains p) (some (w + 1)) hrs) (nextH_none hl).symm (fun pre x suf e => by
    have hx := ((k2 x).mp (mem_mid e)).1
    simp only [m_arrivals_b2]
    refine bd (setAt_ok hx.1 (by rw [nextH_len]; exact hx.2)) (congrArg some ?_)
    refine nextH_set hx.1 hx.2 (contains_true (List.mem_append_right _ (List.mem_singleton.mpr rfl))) fun y _ _ hy => ?_
    by_cases c : y ∈ pre
    · rw [contains_true c, contains_true (List.mem_append_left _ c)]
    · rw [contains_false c, contains_false fun z => by
        rcases List.mem_append.mp z with z | z
        · exact c z
        · exact hy (List.mem_singleton.mp z)])
  refine bd z (congrArg some ?_)
  refine nextH_congr fun y y0 y1 => ?_
  by_cases c : condB s.2.1 (wetL s.1 s.2.2.1 deep w) hrs y = true
  · rw [c, contains_true ((k2 y).mpr ⟨⟨y0, y1⟩, c⟩)]
  · rw [show condB s.2.1 (wetL s.1 s.2.2.1 deep w) hrs y = false from bf c, contains_false fun z => c ((k2 y).mp z).2]
theorem law_step {deep w : Int} {hrs : List (Option Int)} (hl : hrs.length = s.1.length) : m_l_hours_b2 s deep (s.1.length : Int) hrs w = some (nextH s.1.length (condB s.2.1 (wetL s.1 s.2.2.1 deep w) hrs) (some (w + 1)) hrs) := by
  have dl := hs.1.2.1
  have tl := hs.2.2.1.1
  have wl : (wetL s.1 s.2.2.1 deep w).length = s.1.length := by unfold wetL; rw [List.length_map]
  simp only [m_l_hours_b2]
  have m0 := Int.emod_nonneg w (show (s.2.2.1.length : Int) ≠ 0 by omega)
  have m1 := Int.emod_lt_of_pos w (show 0 < (s.2.2.1.length : Int) by omega)
  have h1 : m_l_wet s deep w = some (wetL s.1 s.2.2.1 deep w) := by
    simp only [m_l_wet]
    refine bd (forN_thru (fun pre => wetL pre s.2.2.1 deep w) rfl fun pre x suf e => ?_) rfl
    have hp : pre.length ≤ 12 := by have := congrArg List.length e; rw [List.length_append] at this; omega
    simp only [m_l_wet_b1]
    refine bd (mod_ok (by omega)) (bd (at_get (d := 0) m0 m1) (bd (app_ok (xs := wetL pre s.2.2.1 deep w) (lt_big (by unfold wetL; rw [List.length_map]; omega))) ?_))
    unfold wetL
    rw [List.map_append]; rfl
  refine bd h1 ?_
  rw [rngO_ok (by decide) (by decide) (by omega) (by omega)]; simp only [Option.bind_some]
  have z2 := forN_flat (f := m_l_hours_b3 hrs (wetL s.1 s.2.2.1 deep w)) (xs := rng 0 (s.1.length : Int)) (acc := ([] : List Int)) (fun x => if hereB (wetL s.1 s.2.2.1 deep w) hrs x = true then [x] else []) (fun x => by split <;> simp) (le_big (by rw [rng_length]; show 0 + _ ≤ _; omega)) (fun acc x hx hb => by
    have hx := mem_rng.mp hx
    simp only [m_l_hours_b3]
    refine bd (gB_at hx.1 (by omega)) ?_
    refine bd (x := hereB (wetL s.1 s.2.2.1 deep w) hrs x) ?_ ?_
    · unfold hereB
      by_cases c : gB (wetL s.1 s.2.2.1 deep w) x = true
      · rw [c]; exact bd (gO_at hx.1 (by omega)) rfl
      · rw [show gB (wetL s.1 s.2.2.1 deep w) x = false from bf c]; rfl
    · by_cases c : hereB (wetL s.1 s.2.2.1 deep w) hrs x = true
      · rw [if_pos c, if_pos c, app_ok hb]; rfl
      · rw [if_neg c, if_neg c, List.append_nil])
  rw [List.nil_append] at z2
  refine bd z2 ?_
  have hc : ∀ q : Int, 0 ≤ q → q < s.1.length → ((rng 0 (s.1.length : Int)).flatMap fun x => if hereB (wetL s.1 s.2.2.1 deep w) hrs x = true then [x] else []).contains q = hereB (wetL s.1 s.2.2.1 deep w) hrs q := fun q q0 q1 => by
    by_cases c : hereB (wetL s.1 s.2.2.1 deep w) hrs q = true
    · rw [c, contains_true (filt_mem.mpr ⟨⟨q0, q1⟩, c⟩)]
    · rw [show hereB (wetL s.1 s.2.2.1 deep w) hrs q = false from bf c, contains_false fun z => c (filt_mem.mp z).2]
  have hlm : ∀ p ∈ s.2.1, p.1 < p.2 := fun p hp => (hs.2.1.1 p hp).2.1
  have em := map_nrm hlm
  have ht : ∀ x, m_l_touches s ((rng 0 (s.1.length : Int)).flatMap fun x => if hereB (wetL s.1 s.2.2.1 deep w) hrs x = true then [x] else []) x = some ((nbOf (sortP (s.2.1.map nrm)) x).any (hereB (wetL s.1 s.2.2.1 deep w) hrs)) := fun x => by
    simp only [m_l_touches]
    have z := forR_any (f := m_l_touches_b1 ((rng 0 (s.1.length : Int)).flatMap fun x => if hereB (wetL s.1 s.2.2.1 deep w) hrs x = true then [x] else []) x) (xs := s.2.1) (fun l => (decide (l.1 = x) && hereB (wetL s.1 s.2.2.1 deep w) hrs l.2) || (decide (l.2 = x) && hereB (wetL s.1 s.2.2.1 deep w) hrs l.1)) (fun l hm => by
      have hb := hs.2.1.1 l hm
      simp only [m_l_touches_b1]
      rw [hc l.2 (by omega) hb.2.2, hc l.1 hb.1 (by omega)]
      cases (decide (l.1 = x) && hereB (wetL s.1 s.2.2.1 deep w) hrs l.2)
      · cases (decide (l.2 = x) && hereB (wetL s.1 s.2.2.1 deep w) hrs l.1) <;> rfl
      · rfl)
    refine bd z ?_
    have e : s.2.1.any (fun l => (decide (l.1 = x) && hereB (wetL s.1 s.2.2.1 deep w) hrs l.2) || (decide (l.2 = x) && hereB (wetL s.1 s.2.2.1 deep w) hrs l.1)) = (nbOf (sortP (s.2.1.map nrm)) x).any (hereB (wetL s.1 s.2.2.1 deep w) hrs) := by
      rw [Bool.eq_iff_iff, List.any_eq_true, List.any_eq_true]
      constructor
      · rintro ⟨l, hm, h⟩
        rw [Bool.or_eq_true, Bool.and_eq_true, Bool.and_eq_true, decide_eq_true_eq, decide_eq_true_eq] at h
        rcases h with ⟨rfl, h⟩ | ⟨rfl, h⟩
        · exact ⟨l.2, ((nb_spec hs.2.1.g _).2 _).mpr (.inl (by rw [em]; exact hm)), h⟩
        · exact ⟨l.1, ((nb_spec hs.2.1.g _).2 _).mpr (.inr (by rw [em]; exact hm)), h⟩
      · rintro ⟨q, hq, h⟩
        rcases ((nb_spec hs.2.1.g _).2 _).mp hq with hq | hq
        · rw [em] at hq; exact ⟨_, hq, by simp [h]⟩
        · rw [em] at hq; exact ⟨_, hq, by simp [h]⟩
    rw [e]
    cases (nbOf (sortP (s.2.1.map nrm)) x).any (hereB (wetL s.1 s.2.2.1 deep w) hrs) <;> rfl
  have z := forN_thru (f := m_l_hours_b4 s w (wetL s.1 s.2.2.1 deep w) ((rng 0 (s.1.length : Int)).flatMap fun x => if hereB (wetL s.1 s.2.2.1 deep w) hrs x = true then [x] else [])) (xs := rng 0 (s.1.length : Int)) (s0 := hrs) (fun pre => nextH s.1.length (fun p => decide (p < (pre.length : Int)) && condB s.2.1 (wetL s.1 s.2.2.1 deep w) hrs p) (some (w + 1)) hrs) (by
      rw [nextH_congr (c' := fun _ => false) (fun y y0 _ => by show false = _; rw [decide_eq_false (show ¬ y < ((([] : List Int).length : Nat) : Int) by show ¬ y < 0; omega), Bool.false_and])]
      exact (nextH_none hl).symm) (fun pre x suf e => by
    obtain ⟨g1, g2, _, g4⟩ := rng_mid e
    have hl2 : ((pre ++ [x]).length : Int) = (pre.length : Int) + 1 := by rw [List.length_append]; rfl
    have hx0 : 0 ≤ x := by omega
    simp only [m_l_hours_b4]
    have eo : gO (nextH s.1.length (fun p => decide (p < (pre.length : Int)) && condB s.2.1 (wetL s.1 s.2.2.1 deep w) hrs p) (some (w + 1)) hrs) x = gO hrs x := by
      rw [gO_next hx0 g4, decide_eq_false (show ¬ x < (pre.length : Int) by omega), Bool.false_and, if_neg Bool.false_ne_true]
    have et : ((at_ (wetL s.1 s.2.2.1 deep w) x).bind fun x94 => if x94 = true then (at_ (nextH s.1.length (fun p => decide (p < (pre.length : Int)) && condB s.2.1 (wetL s.1 s.2.2.1 deep w) hrs p) (some (w + 1)) hrs) x).bind fun x98 => if x98.isNone = true then (m_l_touches s ((rng 0 (s.1.length : Int)).flatMap fun x => if hereB (wetL s.1 s.2.2.1 deep w) hrs x = true then [x] else []) x).bind fun q102 => some q102 else some false else some false : Option Bool) = some (condB s.2.1 (wetL s.1 s.2.2.1 deep w) hrs x) := by
      refine bd (gB_at hx0 (by omega)) ?_
      rw [show condB s.2.1 (wetL s.1 s.2.2.1 deep w) hrs x = (gB (wetL s.1 s.2.2.1 deep w) x && ((gO hrs x).isNone && (nbOf (sortP (s.2.1.map nrm)) x).any (hereB (wetL s.1 s.2.2.1 deep w) hrs))) from rfl]
      by_cases c : gB (wetL s.1 s.2.2.1 deep w) x = true
      · rw [c]
        refine ift rfl (bd (gO_at hx0 (by rw [nextH_len]; exact g4)) ?_)
        rw [eo]
        by_cases c2 : (gO hrs x).isNone = true
        · rw [c2]; exact ift rfl (bd (ht x) rfl)
        · rw [show (gO hrs x).isNone = false from bf c2]; rfl
      · rw [show gB (wetL s.1 s.2.2.1 deep w) x = false from bf c]; rfl
    refine bd (bd et (x := condB s.2.1 (wetL s.1 s.2.2.1 deep w) hrs x) (r := some (nextH s.1.length (fun p => decide (p < ((pre ++ [x]).length : Int)) && condB s.2.1 (wetL s.1 s.2.2.1 deep w) hrs p) (some (w + 1)) hrs)) ?_) rfl
    by_cases c : condB s.2.1 (wetL s.1 s.2.2.1 deep w) hrs x = true
    · refine ift c (bd (setAt_ok hx0 (by rw [nextH_len]; exact g4)) (congrArg some ?_))
      refine nextH_set hx0 g4 (by rw [c, Bool.and_true]; exact decide_eq_true (by omega)) fun y y0 y1 hy => ?_
      by_cases cy : y < (pre.length : Int)
      · rw [decide_eq_true cy, decide_eq_true (show y < ((pre ++ [x]).length : Int) by omega)]
      · rw [decide_eq_false cy, decide_eq_false (show ¬ y < ((pre ++ [x]).length : Int) by omega)]
    · refine iff' (by simpa using c) (congrArg some ?_)
      refine nextH_congr fun y y0 y1 => ?_
      by_cases cy : y < (pre.length : Int)
      · rw [decide_eq_true cy, decide_eq_true (show y < ((pre ++ [x]).length : Int) by omega)]
      · by_cases cx : y = x
        · subst cx; rw [show condB s.2.1 (wetL s.1 s.2.2.1 deep w) hrs y = false from bf c, Bool.and_false, Bool.and_false]
        · rw [decide_eq_false cy, decide_eq_false (show ¬ y < ((pre ++ [x]).length : Int) by omega)])
  refine bd z (congrArg some ?_)
  refine nextH_congr fun y y0 y1 => ?_
  rw [decide_eq_true (show y < ((rng 0 (s.1.length : Int)).length : Int) by rw [rng_length]; omega), Bool.true_and]
theorem arr_ok {st deep a b : Int} (st0 : 0 ≤ st) (st1 : st < s.1.length) (a0 : 0 ≤ a) (a1 : a ≤ 1000) (b0 : -1000 ≤ b) (b1 : b ≤ 1000) : ∃ R, m_arrivals (chOf s.1 s.2.1 s.2.2.1 s.2.2.2) st deep a b = some R ∧ m_l_hours s st deep a b = some R ∧ R.length ≤ 12 := by
  have dl := hs.1.2.1
  have h0 : ((List.replicate s.1.length (none : Option Int)).set st.toNat (some a)).length = s.1.length := by rw [List.length_set, List.length_replicate]
  obtain ⟨R, r1, r2, r3⟩ := forN_par (f := m_arrivals_b1 (chOf s.1 s.2.1 s.2.2.1 s.2.2.2) deep) (g := m_l_hours_b2 s deep (s.1.length : Int)) (xs := rng a b) (fun hrs => hrs.length = s.1.length) h0 (fun hrs w _ hl => ⟨_, prog_step hs hl, law_step hs hl, nextH_len _ _ _ _⟩)
  refine ⟨R, ?_, ?_, by omega⟩
  · simp only [m_arrivals]
    refine bd (show repL [(none : Option Int)] (chOf s.1 s.2.1 s.2.2.1 s.2.2.2).1 = some (List.replicate s.1.length none) from repL_one (n := s.1.length) none (by omega)) ?_
    refine bd (setAt_ok st0 (by rw [List.length_replicate]; exact st1)) ?_
    exact bd (rngO_ok (by omega) (by omega) (by omega) (by omega)) (bd r1 rfl)
  · unfold m_l_hours
    refine ltE ?_
    refine bd (rngO_ok (by decide) (by decide) (by omega) (by omega)) ?_
    have e : forN m_l_hours_b1 ([] : List (Option Int)) (rng 0 (s.1.length : Int)) = some (List.replicate s.1.length none) := by
      have z := forN_thru (f := m_l_hours_b1) (xs := rng 0 (s.1.length : Int)) (s0 := ([] : List (Option Int))) (fun pre => List.replicate pre.length none) rfl (fun pre x suf e => by
        have hp : pre.length ≤ 12 := by have := congrArg List.length e; rw [List.length_append, rng_length] at this; omega
        simp only [m_l_hours_b1]
        refine bd (app_ok (lt_big (by rw [List.length_replicate]; omega))) ?_
        rw [List.length_append]
        show some (List.replicate pre.length none ++ [none]) = some (List.replicate (pre.length + 1) none)
        rw [List.replicate_succ'])
      rw [z, rng_length]
      congr 2
    refine bd e ?_
    refine bd (setAt_ok st0 (by rw [List.length_replicate]; exact st1)) ?_
    exact bd (rngO_ok (by omega) (by omega) (by omega) (by omega)) (bd r2 rfl)
end
theorem same_ok {R : List (Option Int)} (h : R.length ≤ 1000) : m_l_same R R = some true := by
  simp only [m_l_same]
  refine iff' (by simp) ?_
  rw [rngO_ok (by decide) (by decide) (by omega) (by omega)]; simp only [Option.bind_some]
  refine bd (forR_all fun k hk => ?_) rfl
  have hk := mem_rng.mp hk
  obtain ⟨y, ey, _⟩ := at_some hk.1 hk.2
  simp only [m_l_same_b1]
  refine bd ey ?_
  cases y with
  | none =>
    refine bd (x := false) (ift rfl (bd ey rfl)) (iff' rfl ?_)
    exact bd (x := false) (bd ey (iff' rfl rfl)) (iff' rfl rfl)
  | some z =>
    refine bd (x := false) (iff' rfl rfl) (iff' rfl ?_)
    refine bd (x := false) (bd ey (ift rfl (bd (bd ey (bd rfl (iff' rfl (bd ey (bd ey (bd rfl (bd rfl (congrArg some (by simp))))))))) rfl))) (iff' rfl rfl)
theorem law_true (s : List Int) (_ : s.length ≤ 63) : m_law s = some true := by
  unfold m_law
  obtain ⟨h0, e0, hh0⟩ := hand_ok s 0 (by decide)
  refine bd e0 ?_
  obtain ⟨w1, g1, e1, s1, hg1, _⟩ := wide_ok hh0
  refine bd e1 ?_
  obtain ⟨h7, e2, hh7⟩ := hand_ok s 7 (by decide)
  refine bd e2 ?_
  refine ltE ?_
  obtain ⟨h8, e3, hh8⟩ := hand_ok s 8 (by decide)
  refine bd e3 ?_
  obtain ⟨ks, k1, e4, hks, hk1⟩ := thinned_ok hh7 (m := 4) s1.2.1 (by decide) (by decide)
  refine bd e4 ?_
  have dl0 := s1.1.1
  have dl := s1.1.2.1
  obtain ⟨js, k2, e5, hjs, hk2⟩ := strung_ok hh8 dl0 dl hks
  refine bd e5 ?_
  obtain ⟨t1, k3, e6, ht1, hk3⟩ := flows_ok hk1 s1.2.2.1
  refine bd e6 ?_
  have hS : SeaOk (w1.1, js, t1, w1.2.2.2) := ⟨s1.1, hjs, ht1, s1.2.2.2⟩
  refine bd (chart_ok hS) ?_
  refine bd rfl ?_
  obtain ⟨h6, e7, hh6⟩ := hand_ok s 6 (by decide)
  refine bd e7 ?_
  obtain ⟨st, k4, e8, st0, st1, hk4⟩ := pick_ok hh6 (n := (w1.1.length : Int)) (by omega) (by omega)
  refine bd e8 ?_
  obtain ⟨pa, k5, e9, pa0, pa1, hk5⟩ := pick_ok hk4 (n := (w1.1.length : Int)) (by omega) (by omega)
  refine bd e9 ?_
  obtain ⟨x1, ex1, _⟩ := at_some (xs := w1.1) pa0 pa1
  refine bd ex1 ?_
  have tl0 := ht1.1
  have tl1 := ht1.2.1
  obtain ⟨pb, k6, e10, pb0, pb1, hk6⟩ := pick_ok hk5 (n := (t1.length : Int)) (by omega) (by omega)
  refine bd e10 ?_
  obtain ⟨x2, ex2, _⟩ := at_some (xs := t1) pb0 pb1
  refine bd ex2 ?_
  obtain ⟨pc, k7, e11, _, _, hk7⟩ := pick_ok hk6 (n := 2) (by decide) (by decide)
  refine bd e11 ?_
  refine ltE ?_
  obtain ⟨f1, k8, e12, f10, f11, hk8⟩ := pick_ok hk7 (n := 31) (by decide) (by decide)
  refine bd e12 ?_
  have j1 : ∃ r : List Int × Int, ((m_l_pick k8 (4 : Int)).bind fun q181 => if (decide (q181.1 = (0 : Int))) = true then ((m_l_pick q181.2 (97 : Int)).bind fun q184 => some (q184.2, q184.1)) else (some (q181.2, f1)) : Option ((List Int) × Int)) = some r ∧ Hd r.1 ∧ 0 ≤ r.2 ∧ r.2 ≤ 96 := by
    obtain ⟨z, k9, e13, _, _, hk9⟩ := pick_ok hk8 (n := 4) (by decide) (by decide)
    by_cases c : z = 0
    · obtain ⟨f2, k10, e14, f20, f21, hk10⟩ := pick_ok hk9 (n := 97) (by decide) (by decide)
      exact ⟨(k10, f2), bd e13 (ift (decide_eq_true c) (bd e14 rfl)), hk10, f20, by show f2 ≤ 96; omega⟩
    · exact ⟨(k9, f1), bd e13 (iff' (decide_eq_false c) rfl), hk9, f10, by show f1 ≤ 96; omega⟩
  obtain ⟨⟨k9, fi⟩, e13, hk9, fi0, fi1⟩ := j1
  refine bd e13 ?_
  simp only at fi0 fi1
  obtain ⟨l1, k10, e14, l10, l11, hk10⟩ := pick_ok hk9 (n := 15) (by decide) (by decide)
  refine bd e14 ?_
  have j2 : ∃ r : Int, ((m_l_pick k10 (8 : Int)).bind fun q191 => if (decide (q191.1 = (0 : Int))) = true then ((m_l_pick q191.2 (97 : Int)).bind fun q194 => some q194.1) else (some l1) : Option Int) = some r ∧ 0 ≤ r ∧ r ≤ 96 := by
    obtain ⟨z, k11, e15, _, _, hk11⟩ := pick_ok hk10 (n := 8) (by decide) (by decide)
    by_cases c : z = 0
    · obtain ⟨f2, k12, e16, f20, f21, _⟩ := pick_ok hk11 (n := 97) (by decide) (by decide)
      exact ⟨f2, bd e15 (ift (decide_eq_true c) (bd e16 rfl)), f20, by omega⟩
    · exact ⟨l1, bd e15 (iff' (decide_eq_false c) rfl), l10, by omega⟩
  obtain ⟨lo, e15, lo0, lo1⟩ := j2
  refine bd e15 ?_
  refine ltE ?_
  obtain ⟨R, r1, r2, r3⟩ := arr_ok hS (deep := x1 + x2 + pc) (a := fi) (b := min 96 (fi + lo)) st0 st1 fi0 (by omega) (by omega) (by omega)
  refine bd r2 (bd r1 ?_)
  refine bd (same_ok (by omega)) (iff' rfl ?_)
  refine bd (app_ok (lt_big (by rw [List.length_reverse]; omega))) ?_
  refine bd (x := true) ?_ (iff' rfl ?_)
  · unfold m_l_left_out
    have m0 := Int.emod_nonneg fi (show (25 : Int) ≠ 0 by decide)
    have m1 := Int.emod_lt_of_pos fi (show (0 : Int) < 25 by decide)
    obtain ⟨R1, a1, a2, a3⟩ := arr_ok hS (deep := 0) (a := 0) (b := 24) st0 st1 (by decide) (by decide) (by decide) (by decide)
    refine bd a1 (bd a2 (bd (same_ok (by omega)) (iff' rfl ?_)))
    obtain ⟨R2, a1, a2, a3⟩ := arr_ok hS (deep := x1 + x2 + pc) (a := 0) (b := 24) st0 st1 (by decide) (by decide) (by decide) (by decide)
    refine bd a1 (bd a2 (bd (same_ok (by omega)) (iff' rfl ?_)))
    refine ltE ?_
    obtain ⟨R3, a1, a2, a3⟩ := arr_ok hS (deep := x1 + x2 + pc) (a := fi % 25) (b := 24) st0 st1 m0 (by omega) (by decide) (by decide)
    refine bd a1 (bd a2 (bd (same_ok (by omega)) (iff' rfl ?_)))
    obtain ⟨R4, a1, a2, a3⟩ := arr_ok hS (deep := x1 + x2 + pc) (a := 0) (b := fi % 25) st0 st1 (by decide) (by decide) (by omega) (by omega)
    exact bd a1 (bd a2 (bd (same_ok (by omega)) rfl))
  · refine bd r1 (bd (same_ok (by omega)) (iff' rfl ?_))
    exact bd rfl (congrArg some (by simp))


end Mi
namespace G
open PySem PySem.Spec PyProof.Rows L2
/-! ### what never changes, and how a heap changes -/
/-- the attribute that an __init__ sets last: an instance with it is whole and stays as it is -/
def lastF : List Str := ["joined", "fuel", "reach", "inside", "hops", "letters", "hours"]
def done (fs : List (Str × V)) : Bool := fs.any fun p => lastF.any fun q => decide (q = p.1)
def Froz : HO → Prop
  | .tup _ => True
  | .ins _ _ fs => done fs = true
  | .own _ => True
  | .frz _ _ => True
  | _ => False
structure Chg (M : List Addr) (H H' : Hp) : Prop where
  keep : ∀ b o, H b = some o → (b ∉ M ∨ Froz o) → H' b = some o
  dom : ∀ b, H' b = none → H b = none
theorem Chg.refl {M : List Addr} (H : Hp) : Chg M H H := ⟨fun _ _ h _ => h, fun _ h => h⟩
theorem Chg.trans {M : List Addr} {H H1 H2 : Hp} (a : Chg M H H1) (b : Chg M H1 H2) : Chg M H H2 :=
  ⟨fun x o h d => b.keep x o (a.keep x o h d) d, fun x h => a.dom x (b.dom x h)⟩
theorem Chg.mono {M N : List Addr} {H H' : Hp} (a : Chg M H H') (s : ∀ x ∈ M, x ∈ N) : Chg N H H' :=
  ⟨fun b o h d => a.keep b o h (d.imp (fun z y => z (s b y)) id), a.dom⟩
theorem Chg.none {M : List Addr} {H H' : Hp} (a : Chg [] H H') : Chg M H H' := a.mono (fun x h => nomatch h)
theorem Chg.new {M : List Addr} {H : Hp} {p : Addr} {o : HO} (np : H p = .none) : Chg M H (upd H p o) :=
  ⟨fun b u h _ => by rw [upd_ne (ne_of_none h np)]; exact h, fun b h => by
    by_cases e : b = p
    · subst e; exact np
    · rw [upd_ne e] at h; exact h⟩
theorem Chg.wr {H : Hp} {p : Addr} {o u : HO} (hp : H p = some u) (nf : ¬ Froz u) : Chg [p] H (upd H p o) :=
  ⟨fun b w h d => by
    have e : b ≠ p := by
      intro e; subst e
      rw [hp] at h; cases h
      rcases d with d | d
      · exact d (List.mem_singleton.mpr rfl)
      · exact nf d
    rw [upd_ne e]; exact h, fun b h => by
    by_cases e : b = p
    · subst e; rw [upd_same] at h; cases h
    · rw [upd_ne e] at h; exact h⟩
/-- what was made behind H0 may change -/
theorem Chg.loc {M N : List Addr} {H0 H H' : Hp} (a : Chg M H0 H) (b : Chg N H H') (fr : ∀ x ∈ N, H0 x = .none) : Chg M H0 H' :=
  ⟨fun x o h d => b.keep x o (a.keep x o h d) (.inl (fun z => by rw [fr x z] at h; cases h)), fun x h => a.dom x (b.dom x h)⟩
/-- the part N of M, and what was made behind H0, may change -/
theorem Chg.join {M N : List Addr} {H0 H H' : Hp} (a : Chg M H0 H) (b : Chg N H H') (fr : ∀ x ∈ N, x ∈ M ∨ H0 x = .none) : Chg M H0 H' :=
  ⟨fun x o h d => b.keep x o (a.keep x o h d) (by
    rcases d with d | d
    · refine .inl (fun z => ?_)
      rcases fr x z with y | y
      · exact d y
      · rw [y] at h; cases h
    · exact .inr d), fun x h => a.dom x (b.dom x h)⟩
theorem Chg.free {M : List Addr} {H H' : Hp} (a : Chg M H H') {p : Addr} (np : H' p = .none) : H p = .none := a.dom p np
/-! ### kinds of data -/
structure Ty (α : Type) where
  rep : PySem.W.Frag → Hp → List Addr → V → α → Prop
  keep : ∀ {K : PySem.W.Frag} {H H' : Hp} {F : List Addr} {v : V} {d : α}, rep K H F v d → (∀ b o, H b = some o → (b ∈ F ∨ Froz o) → H' b = some o) → rep K H' F v d
  dom : ∀ {K : PySem.W.Frag} {H : Hp} {F : List Addr} {v : V} {d : α}, rep K H F v d → ∀ b ∈ F, ∃ o, H b = some o ∧ ¬ Froz o
/-- a and b have nothing in common -/
def Dj (F G : List Addr) : Prop := ∀ a ∈ F, a ∉ G
theorem Dj.symm {F G : List Addr} (d : Dj F G) : Dj G F := fun a h z => d a z h
theorem Dj.nil {F : List Addr} : Dj [] F := fun a h => nomatch h
theorem Dj.nilR {F : List Addr} : Dj F [] := fun a h z => nomatch z
section
variable {α β : Type} {τ : Ty α} {υ : Ty β} {K : PySem.W.Frag} {H H' : Hp} {F G M : List Addr} {v u : V} {d : α} {p : Addr}
theorem Ty.chg (r : τ.rep K H F v d) (c : Chg M H H') (dj : Dj F M) : τ.rep K H' F v d :=
  τ.keep r fun b o h z => c.keep b o h (z.imp (fun y => dj b y) id)
theorem Ty.ex (r : τ.rep K H F v d) (c : Chg [] H H') : τ.rep K H' F v d := Ty.chg r c Dj.nilR
theorem Ty.fz (r : τ.rep K H [] v d) (c : Chg M H H') : τ.rep K H' [] v d := Ty.chg r c Dj.nil
theorem Ty.nin (r : τ.rep K H F v d) (np : H p = none) : Dj F [p] := fun a h z => by
  rw [List.mem_singleton] at z; subst z
  obtain ⟨o, e, _⟩ := τ.dom r a h
  rw [np] at e; cases e
theorem Ty.fresh (r : τ.rep K H F v d) (np : ∀ a ∈ G, H a = none) : Dj F G := fun a h z => by
  obtain ⟨o, e, _⟩ := τ.dom r a h
  rw [np a z] at e; cases e
end
theorem one_fresh {H : Hp} {p : Addr} (np : H p = none) : ∀ a ∈ [p], H a = none := fun a h => by
  rw [List.mem_singleton] at h; subst h; exact np
/-! ### flat data -/
def yInt : Ty Int := ⟨fun _ _ F v d => F = [] ∧ v = .int d, fun h _ => h, fun h b m => by rw [h.1] at m; cases m⟩
def yBool : Ty Bool := ⟨fun _ _ F v d => F = [] ∧ v = .bl d, fun h _ => h, fun h b m => by rw [h.1] at m; cases m⟩
def toS (l : List Nat) : Str := ⟨l.toArray⟩
def yStr : Ty (List Nat) := ⟨fun _ _ F v d => F = [] ∧ v = .str (toS d), fun h _ => h, fun h b m => by rw [h.1] at m; cases m⟩
def yNon : Ty Unit := ⟨fun _ _ F v _ => F = [] ∧ v = .non, fun h _ => h, fun h b m => by rw [h.1] at m; cases m⟩
theorem yInt_i {K : PySem.W.Frag} {H : Hp} {i : Int} : yInt.rep K H [] (.int i) i := ⟨rfl, rfl⟩
theorem yBool_i {K : PySem.W.Frag} {H : Hp} {i : Bool} : yBool.rep K H [] (.bl i) i := ⟨rfl, rfl⟩
theorem yStr_i {K : PySem.W.Frag} {H : Hp} {i : List Nat} : yStr.rep K H [] (.str (toS i)) i := ⟨rfl, rfl⟩
theorem yNon_i {K : PySem.W.Frag} {H : Hp} : yNon.rep K H [] .non () := ⟨rfl, rfl⟩
/-- None or data -/
def yOpt {α : Type} (τ : Ty α) : Ty (Option α) where
  rep K H F v d := match d with
    | none => F = [] ∧ v = .non
    | some x => v ≠ .non ∧ τ.rep K H F v x
  keep {K H H' F v d} h k := by
    cases d with
    | none => exact h
    | some x => exact ⟨h.1, τ.keep h.2 k⟩
  dom {K H F v d} h b m := by
    cases d with
    | none => rw [h.1] at m; cases m
    | some x => exact τ.dom h.2 b m
/-- a list whose items never change -/
def yLst {α : Type} (τ : Ty α) : Ty (List α) where
  rep K H F v xs := ∃ a vs, v = .ref a ∧ F = [a] ∧ H a = some (.lst vs) ∧ Paired (fun u x => τ.rep K H [] u x) vs xs
  keep {K H H' F v xs} h k := by
    obtain ⟨a, vs, e, f, g, r⟩ := h
    subst f
    exact ⟨a, vs, e, rfl, k a _ g (.inl (List.mem_singleton.mpr rfl)), Paired.mapP r fun u x q => τ.keep q fun b o hb z => k b o hb (z.elim (fun y => nomatch y) .inr)⟩
  dom {K H F v xs} h b m := by
    obtain ⟨a, vs, e, f, g, r⟩ := h
    subst f
    rw [List.mem_singleton] at m; subst m
    exact ⟨_, g, fun z => z⟩
theorem SqT.keeps {K : PySem.W.Frag} {H H' : Hp} {a : Addr} {vs : List V} (s : SqT K H a vs) (k : ∀ b o, H b = some o → Froz o → H' b = some o) : SqT K H' a vs := by
  rcases s with (s | ⟨o, s⟩) | s
  · exact .inl (.inl (k _ _ s trivial))
  · exact .inl (.inr ⟨o, k _ _ s trivial⟩)
  · exact .inr s
/-- the items of a tuple -/
structure Tys (α : Type) where
  rep : PySem.W.Frag → Hp → List Addr → List V → α → Prop
  keep : ∀ {K : PySem.W.Frag} {H H' : Hp} {F : List Addr} {v : List V} {d : α}, rep K H F v d → (∀ b o, H b = some o → (b ∈ F ∨ Froz o) → H' b = some o) → rep K H' F v d
  dom : ∀ {K : PySem.W.Frag} {H : Hp} {F : List Addr} {v : List V} {d : α}, rep K H F v d → ∀ b ∈ F, ∃ o, H b = some o ∧ ¬ Froz o
def sOne {α : Type} (τ : Ty α) : Tys α where
  rep K H F vs x := ∃ v, vs = [v] ∧ τ.rep K H F v x
  keep h k := by obtain ⟨v, e, r⟩ := h; exact ⟨v, e, τ.keep r k⟩
  dom h b m := by obtain ⟨v, e, r⟩ := h; exact τ.dom r b m
def sCons {α β : Type} (τ : Ty α) (ts : Tys β) : Tys (α × β) where
  rep K H F vs x := ∃ v ws F1 F2, vs = v :: ws ∧ F = F1 ++ F2 ∧ τ.rep K H F1 v x.1 ∧ ts.rep K H F2 ws x.2
  keep {K H H' F v d} h k := by
    obtain ⟨v, ws, F1, F2, e, f, r, q⟩ := h
    subst f
    exact ⟨v, ws, F1, F2, e, rfl, τ.keep r fun b o hb z => k b o hb (z.imp (fun y => List.mem_append_left _ y) id), ts.keep q fun b o hb z => k b o hb (z.imp (fun y => List.mem_append_right _ y) id)⟩
  dom {K H F v d} h b m := by
    obtain ⟨v, ws, F1, F2, e, f, r, q⟩ := h
    subst f
    rcases List.mem_append.mp m with m | m
    · exact τ.dom r b m
    · exact ts.dom q b m
def yTup {α : Type} (ts : Tys α) : Ty α where
  rep K H F v d := ∃ a vs, v = .ref a ∧ SqT K H a vs ∧ ts.rep K H F vs d
  keep h k := by
    obtain ⟨a, vs, e, s, r⟩ := h
    exact ⟨a, vs, e, SqT.keeps s fun b o hb z => k b o hb (.inr z), ts.keep r k⟩
  dom h b m := by obtain ⟨a, vs, e, s, r⟩ := h; exact ts.dom r b m
/-- a tuple of any number of things of one kind that never change -/
def yTupL {α : Type} (τ : Ty α) : Ty (List α) where
  rep K H F v xs := ∃ a vs, v = .ref a ∧ F = [] ∧ SqT K H a vs ∧ Paired (fun u x => τ.rep K H [] u x) vs xs
  keep {K H H' F v xs} h k := by
    obtain ⟨a, vs, e, f, g, r⟩ := h
    exact ⟨a, vs, e, f, SqT.keeps g fun b o hb z => k b o hb (.inr z), Paired.mapP r fun u x q => τ.keep q fun b o hb z => k b o hb (z.elim (fun y => nomatch y) .inr)⟩
  dom {K H F v xs} h b m := by
    obtain ⟨a, vs, e, f, g, r⟩ := h
    rw [f] at m; cases m
/-- the script -/
def yScr : Ty (List Int) where
  rep K H F v xs := F = [] ∧ ∃ a, v = .ref a ∧ ∀ H', (∀ b o, H b = some o → Froz o → H' b = some o) → SqL K H' a (xs.map V.int)
  keep {K H H' F v xs} h k := by
    obtain ⟨f, a, e, g⟩ := h
    exact ⟨f, a, e, fun H2 k2 => g H2 fun b o hb z => k2 b o (k b o hb (.inr z)) z⟩
  dom {K H F v xs} h b m := by
    rw [h.1] at m; cases m
theorem yScr_of {K : PySem.W.Frag} {H : Hp} {a : Addr} {ns : List Int} (o : Only H) (s : SqL K H a (ns.map V.int)) : yScr.rep K H [] (.ref a) ns := by
  refine ⟨rfl, a, rfl, fun H' k => ?_⟩
  rcases s with (s | ⟨ob, s⟩) | s
  · rcases o a with z | ⟨_, _, z⟩
    · rw [z] at s; cases s
    · rw [z] at s; cases s
  · exact .inl (.inr ⟨ob, k _ _ s trivial⟩)
  · exact .inr s
end G

namespace G
open PySem PySem.Spec PyProof.Rows L2
theorem at_eq {α : Type} (xs : List α) (i : Int) : L2.atI xs i = Mi.at_ xs i := rfl
theorem ixN_eq (n : Nat) (i : Int) : L2.ixN n i = Mi.ixN n i := rfl
theorem line_big : Mi.big ≤ sizeLine := by rw [sizeLine_eq]; decide
section paired
variable {α β γ : Type} {R : α → β → Prop}
theorem pr_len {xs : List α} {ys : List β} (r : Paired R xs ys) : xs.length = ys.length := Paired.length r
theorem pr_get : ∀ {xs : List α} {ys : List β} {j : Nat} {y : β}, Paired R xs ys → ys[j]? = some y → ∃ x, xs[j]? = some x ∧ R x y
  | _, _, _, _, .nil, e => by simp at e
  | _, _, 0, _, .cons r _, e => by simp at e; subst e; exact ⟨_, rfl, r⟩
  | _, _, j + 1, y, .cons _ t, e => by
    obtain ⟨u, h1, h2⟩ := pr_get (j := j) (y := y) t (by simpa using e)
    exact ⟨u, by simpa using h1, h2⟩
theorem pr_getL : ∀ {xs : List α} {ys : List β} {j : Nat} {x : α}, Paired R xs ys → xs[j]? = some x → ∃ y, ys[j]? = some y ∧ R x y
  | _, _, _, _, .nil, e => by simp at e
  | _, _, 0, _, .cons r _, e => by simp at e; subst e; exact ⟨_, rfl, r⟩
  | _, _, j + 1, y, .cons _ t, e => by
    obtain ⟨u, h1, h2⟩ := pr_getL (j := j) (x := y) t (by simpa using e)
    exact ⟨u, by simpa using h1, h2⟩
theorem pr_set {x : α} {y : β} (r : R x y) : ∀ {xs : List α} {ys : List β} (i : Nat), Paired R xs ys → Paired R (xs.set i x) (ys.set i y)
  | _, _, _, .nil => .nil
  | _, _, 0, .cons _ t => .cons r t
  | _, _, i + 1, .cons q t => .cons q (pr_set r i t)
theorem pr_app : ∀ {xs zs : List α} {ys ws : List β}, Paired R xs ys → Paired R zs ws → Paired R (xs ++ zs) (ys ++ ws)
  | _, _, _, _, .nil, s => s
  | _, _, _, _, .cons r t, s => .cons r (pr_app t s)
theorem pr_take : ∀ {xs : List α} {ys : List β} (n : Nat), Paired R xs ys → Paired R (xs.take n) (ys.take n)
  | _, _, 0, _ => .nil
  | _, _, _ + 1, .nil => .nil
  | _, _, n + 1, .cons r t => .cons r (pr_take n t)
theorem pr_drop : ∀ {xs : List α} {ys : List β} (n : Nat), Paired R xs ys → Paired R (xs.drop n) (ys.drop n)
  | _, _, 0, r => r
  | _, _, _ + 1, .nil => .nil
  | _, _, n + 1, .cons _ t => pr_drop n t
theorem pr_at {xs : List α} {ys : List β} {i : Int} {y : β} (r : Paired R xs ys) (h : Mi.at_ ys i = some y) : ∃ x, L2.atI xs i = some x ∧ R x y := by
  rw [at_eq]
  unfold Mi.at_ at h ⊢
  rw [pr_len r]
  obtain ⟨j, e, h⟩ := Mi.bnd h
  obtain ⟨x, e2, q⟩ := pr_get r h
  exact ⟨x, by rw [e]; exact e2, q⟩
theorem pr_map (f : β → α) (h : ∀ b, R (f b) b) : ∀ ys : List β, Paired R (ys.map f) ys
  | [] => .nil
  | y :: ys => .cons (h y) (pr_map f h ys)
theorem pr_of_map (f : β → α) (h : ∀ a b, R a b → a = f b) : ∀ {xs : List α} {ys : List β}, Paired R xs ys → xs = ys.map f
  | _, _, .nil => rfl
  | _, _, .cons r t => by rw [h _ _ r, pr_of_map f h t]; rfl
end paired
theorem ints_of {K : PySem.W.Frag} {H : Hp} {vs : List V} {ns : List Int} (r : Paired (fun u x => yInt.rep K H [] u x) vs ns) : vs = ns.map V.int := pr_of_map V.int (fun _ _ q => q.2) r
theorem ints_mk {K : PySem.W.Frag} {H : Hp} (ns : List Int) : Paired (fun u x => yInt.rep K H [] u x) (ns.map V.int) ns := pr_map V.int (fun _ => ⟨rfl, rfl⟩) ns
/-! ### values without a change of the heap -/
section vals
variable {K : PySem.W.Frag} {σ : L2.St} {H : Hp} {F : List Addr} {ta tb te : TE} {v u x y : V} {i j : Int} {t : TT} {b c : Bool} {α β : Type} {τ : Ty α}
theorem val_I0 {g : Int → Int → V} (ha : Val ta σ H (.int i)) (hb : Val tb σ H (.int j)) : Val (tOp (rI0 g) ta tb) σ H (g i j) := val_op ha hb fun Q q => ⟨i, j, rfl, rfl, q⟩
theorem val_I {C : Int → Int → Prop} {g : Int → Int → V} (ha : Val ta σ H (.int i)) (hb : Val tb σ H (.int j)) (hc : C i j) : Val (tOp (rI C g) ta tb) σ H (g i j) := val_op ha hb fun Q q => ⟨i, j, rfl, rfl, hc, q⟩
theorem val_U {g : Int → V} (ha : Val ta σ H (.int i)) : Val (tUn (rU g) ta) σ H (g i) := fun Q q => ha _ ⟨i, rfl, q⟩
theorem dI {i j : Int} : decide (V.int i = V.int j) = decide (i = j) := by
  by_cases e : i = j
  · subst e; simp
  · rw [decide_eq_false e, decide_eq_false (fun q => e (V.int.inj q))]
theorem dB {i j : Bool} : decide (V.bl i = V.bl j) = decide (i = j) := by
  by_cases e : i = j
  · subst e; simp
  · rw [decide_eq_false e, decide_eq_false (fun q => e (V.bl.inj q))]
theorem dS {i j : Str} : decide (V.str i = V.str j) = decide (i = j) := by
  by_cases e : i = j
  · subst e; simp
  · rw [decide_eq_false e, decide_eq_false (fun q => e (V.str.inj q))]
theorem val_eqI (ha : Val ta σ H (.int i)) (hb : Val tb σ H (.int j)) : Val (tOp rEq ta tb) σ H (.bl (decide (i = j))) := val_op ha hb fun Q q => ⟨rfl, by rw [dI]; exact q⟩
theorem val_neI (ha : Val ta σ H (.int i)) (hb : Val tb σ H (.int j)) : Val (tOp rNe ta tb) σ H (.bl (!decide (i = j))) := val_op ha hb fun Q q => ⟨rfl, by rw [dI]; exact q⟩
theorem val_eqB (ha : Val ta σ H (.bl b)) (hb : Val tb σ H (.bl c)) : Val (tOp rEq ta tb) σ H (.bl (decide (b = c))) := val_op ha hb fun Q q => ⟨rfl, by rw [dB]; exact q⟩
theorem val_neB (ha : Val ta σ H (.bl b)) (hb : Val tb σ H (.bl c)) : Val (tOp rNe ta tb) σ H (.bl (!decide (b = c))) := val_op ha hb fun Q q => ⟨rfl, by rw [dB]; exact q⟩
theorem val_is {w : V} (h : Val te σ H v) (e : v = w) : Val te σ H w := e ▸ h
theorem ans_is (h : Ans t σ H b) (e : b = c) : Ans t σ H c := e ▸ h
theorem mulC {i j r : Int} (h : Mi.mul i j = some r) : CMul i j ∧ i * j = r := by
  unfold Mi.mul at h
  split at h
  · exact ⟨by assumption, Option.some.inj h⟩
  · cases h
theorem modC {i j r : Int} (h : Mi.mod i j = some r) : 0 < j ∧ i % j = r := by
  unfold Mi.mod at h
  split at h
  · exact ⟨by assumption, Option.some.inj h⟩
  · cases h
theorem divC {i j r : Int} (h : Mi.fdiv i j = some r) : CDivW i j ∧ i / j = r := by
  unfold Mi.fdiv at h
  split at h
  · rename_i hc
    refine ⟨wide_div (b := 200) hc.1 ?_ (by decide) (by decide), Option.some.inj h⟩
    omega
  · cases h
theorem val_mul {r : Int} (ha : Val ta σ H (.int i)) (hb : Val tb σ H (.int j)) (h : Mi.mul i j = some r) : Val (tOp (rI CMul fun i j => .int (i * j)) ta tb) σ H (.int r) := val_is (val_I ha hb (mulC h).1) (by rw [(mulC h).2])
theorem val_mod {r : Int} (ha : Val ta σ H (.int i)) (hb : Val tb σ H (.int j)) (h : Mi.mod i j = some r) : Val (tOp (rI (fun _ j => 0 < j) fun i j => .int (i % j)) ta tb) σ H (.int r) := val_is (val_I ha hb (modC h).1) (by rw [(modC h).2])
theorem val_fdiv {r : Int} (ha : Val ta σ H (.int i)) (hb : Val tb σ H (.int j)) (h : Mi.fdiv i j = some r) : Val (tOp (rI CDivW fun i j => .int (i / j)) ta tb) σ H (.int r) := val_is (val_I ha hb (divC h).1) (by rw [(divC h).2])
theorem ans_t (h : Val te σ H (.bl b)) : Ans (tTest te) σ H b := fun Q q => h _ ⟨b, rfl, q⟩
/-- int(n) -/
def rInt1 : List V → Hp → VK → Prop := fun xs H Q => (∃ i, xs = [.int i] ∧ Q (.int i) H) ∨ ∃ k, xs = [.bl k] ∧ Q (.int (if k then 1 else 0)) H
theorem cl_int {X : Cx} : CallR X (.type "int") rInt1 := call_int1
theorem val_int (ha : Val ta σ H (.int i)) : Val (tCB rInt1 (tCons ta tNil)) σ H (.int i) := fun Q q => ha _ (.inl ⟨i, rfl, q⟩)
def rMax2 : List V → Hp → VK → Prop := fun xs H Q => ∃ i j, xs = [.int i, .int j] ∧ Q (.int (if j > i then j else i)) H
def rMin2 : List V → Hp → VK → Prop := fun xs H Q => ∃ i j, xs = [.int i, .int j] ∧ Q (.int (if j < i then j else i)) H
theorem cl_max2 {X : Cx} (hc : X.calm = true) : CallR X (.builtin "max") rMax2 := call_max2 hc
theorem cl_min2 {X : Cx} (hc : X.calm = true) : CallR X (.builtin "min") rMin2 := call_min2 hc
theorem val_max2 (ha : Val ta σ H (.int i)) (hb : Val tb σ H (.int j)) : Val (tCB rMax2 (tCons ta (tCons tb tNil))) σ H (.int (max i j)) := fun Q q => ha _ (hb _ ⟨i, j, rfl, by
  have e : (if j > i then j else i) = max i j := by split <;> omega
  rw [e]; exact q⟩)
theorem val_min2 (ha : Val ta σ H (.int i)) (hb : Val tb σ H (.int j)) : Val (tCB rMin2 (tCons ta (tCons tb tNil))) σ H (.int (min i j)) := fun Q q => ha _ (hb _ ⟨i, j, rfl, by
  have e : (if j < i then j else i) = min i j := by split <;> omega
  rw [e]; exact q⟩)
/-- len of a list or tuple -/
def rLenQ (K : PySem.W.Frag) : List V → Hp → VK → Prop := fun xs H Q => ∃ p ys, xs = [.ref p] ∧ (SqL K H p ys ∨ SqT K H p ys) ∧ Q (.int ys.length) H
theorem cl_len {X : Cx} {K : PySem.W.Frag} (e : X.K = K := by rfl) : CallR X (.builtin "len") (rLenQ K) := by subst e; exact call_len_seq
theorem lst_sq {xs : List α} (r : (yLst τ).rep K H F v xs) : ∃ a vs, v = .ref a ∧ SqL K H a vs ∧ Paired (fun u x => τ.rep K H [] u x) vs xs := by
  obtain ⟨a, vs, e, f, g, q⟩ := r
  exact ⟨a, vs, e, .inl (.inl g), q⟩
theorem tupl_sq {xs : List α} (r : (yTupL τ).rep K H F v xs) : ∃ a vs, v = .ref a ∧ SqT K H a vs ∧ Paired (fun u x => τ.rep K H [] u x) vs xs := by
  obtain ⟨a, vs, e, f, g, q⟩ := r
  exact ⟨a, vs, e, g, q⟩
theorem scr_sq {xs : List Int} (r : yScr.rep K H F v xs) : ∃ a vs, v = .ref a ∧ SqL K H a vs ∧ Paired (fun u x => yInt.rep K H [] u x) vs xs := by
  obtain ⟨f, a, e, g⟩ := r
  exact ⟨a, _, e, g H fun _ _ h _ => h, ints_mk xs⟩
theorem val_lenL {xs : List α} (r : (yLst τ).rep K H F v xs) (ha : Val ta σ H v) : Val (tCB (rLenQ K) (tCons ta tNil)) σ H (.int (xs.length : Int)) := by
  obtain ⟨a, vs, e, s, q⟩ := lst_sq r
  subst e
  exact fun Q k => ha _ ⟨a, vs, rfl, .inl s, by rw [pr_len q]; exact k⟩
theorem val_lenT {xs : List α} (r : (yTupL τ).rep K H F v xs) (ha : Val ta σ H v) : Val (tCB (rLenQ K) (tCons ta tNil)) σ H (.int (xs.length : Int)) := by
  obtain ⟨a, vs, e, s, q⟩ := tupl_sq r
  subst e
  exact fun Q k => ha _ ⟨a, vs, rfl, .inr s, by rw [pr_len q]; exact k⟩
theorem val_lenS {xs : List Int} (r : yScr.rep K H F v xs) (ha : Val ta σ H v) : Val (tCB (rLenQ K) (tCons ta tNil)) σ H (.int (xs.length : Int)) := by
  obtain ⟨a, vs, e, s, q⟩ := scr_sq r
  subst e
  exact fun Q k => ha _ ⟨a, vs, rfl, .inl s, by rw [pr_len q]; exact k⟩
/-- items -/
theorem ix_l {X : Cx} {K : PySem.W.Frag} (e : X.K = K := by rfl) : IxR X (rIxL K) := by subst e; exact ix_list
theorem ix_t {X : Cx} {K : PySem.W.Frag} (e : X.K = K := by rfl) : IxR X (rIxT K) := by subst e; exact ix_tup
/-- the item's own value, by its data -/
theorem itm_L {xs : List α} {x : α} (r : (yLst τ).rep K H F v xs) (h : Mi.at_ xs i = some x) :
    ∃ u, τ.rep K H [] u x ∧ ∀ {σ : L2.St} {ta tb : TE}, Val ta σ H v → Val tb σ H (.int i) → Val (tOp (rIxL K) ta tb) σ H u := by
  obtain ⟨a, vs, e, s, q⟩ := lst_sq r
  subst e
  obtain ⟨u, e, ru⟩ := pr_at q h
  exact ⟨u, ru, fun ha hb => val_op ha hb fun Q k => ⟨a, vs, i, u, rfl, rfl, s, e, k⟩⟩
theorem itm_T {xs : List α} {x : α} (r : (yTupL τ).rep K H F v xs) (h : Mi.at_ xs i = some x) :
    ∃ u, τ.rep K H [] u x ∧ ∀ {σ : L2.St} {ta tb : TE}, Val ta σ H v → Val tb σ H (.int i) → Val (tOp (rIxT K) ta tb) σ H u := by
  obtain ⟨a, vs, e, s, q⟩ := tupl_sq r
  subst e
  obtain ⟨u, e, ru⟩ := pr_at q h
  exact ⟨u, ru, fun ha hb => val_op ha hb fun Q k => ⟨a, vs, i, u, rfl, rfl, s, e, k⟩⟩
theorem itm_S {xs : List Int} {x : Int} (r : yScr.rep K H F v xs) (h : Mi.at_ xs i = some x) {σ : L2.St} {ta tb : TE} (ha : Val ta σ H v) (hb : Val tb σ H (.int i)) : Val (tOp (rIxL K) ta tb) σ H (.int x) := by
  obtain ⟨a, vs, e, s, q⟩ := scr_sq r
  subst e
  obtain ⟨u, e, ru⟩ := pr_at q h
  obtain ⟨_, rfl⟩ := ru
  exact val_op ha hb fun Q k => ⟨a, vs, i, _, rfl, rfl, s, e, k⟩
/-- ints in lists -/
theorem itm_LI {xs : List Int} {x : Int} (r : (yLst yInt).rep K H F v xs) (h : Mi.at_ xs i = some x) {σ : L2.St} {ta tb : TE} (ha : Val ta σ H v) (hb : Val tb σ H (.int i)) : Val (tOp (rIxL K) ta tb) σ H (.int x) := by
  obtain ⟨u, ⟨_, rfl⟩, k⟩ := itm_L r h
  exact k ha hb
theorem itm_TI {xs : List Int} {x : Int} (r : (yTupL yInt).rep K H F v xs) (h : Mi.at_ xs i = some x) {σ : L2.St} {ta tb : TE} (ha : Val ta σ H v) (hb : Val tb σ H (.int i)) : Val (tOp (rIxT K) ta tb) σ H (.int x) := by
  obtain ⟨u, ⟨_, rfl⟩, k⟩ := itm_T r h
  exact k ha hb
/-! ### isinstance -/
theorem cl_isi {X : Cx} {K : PySem.W.Frag} (e : X.K = K := by rfl) : CallR X (.builtin "isinstance") (rIsi K) := by subst e; exact call_isi
theorem val_isi {n m : String} {b : Bool} (ha : Val ta σ H v) (ht : TyX K H v (.type n)) (h : kitB n m = some b) : Val (tCB (rIsi K) (tCons ta (tCons (tC (.ty m)) tNil))) σ H (.bl b) := fun Q q =>
  ha _ ⟨v, .ty m, .type n, .type m, b, rfl, .ty m, ht, kit_ty h, q⟩
theorem ty_int : TyX K H (.int i) (.type "int") := .base (.int i)
theorem ty_bl : TyX K H (.bl b) (.type "bool") := .base (.bl b)
theorem ty_str {s : Str} : TyX K H (.str s) (.type "str") := .base (.str s)
theorem ty_non : TyX K H .non (.type "NoneType") := .base .non
theorem ty_lst {xs : List α} (r : (yLst τ).rep K H F v xs) : TyX K H v (.type "list") := by
  obtain ⟨a, vs, rfl, f, g, q⟩ := r
  exact .base (.lst g)
theorem ty_sqt {a : Addr} {vs : List V} (s : SqT K H a vs) : TyX K H (.ref a) (.type "tuple") := by
  rcases s with (s | ⟨o, s⟩) | ⟨o, its, n, e, c, _⟩
  · exact .base (.tup s)
  · exact .fTuple s
  · exact .kTuple e c
theorem ty_tupl {xs : List α} (r : (yTupL τ).rep K H F v xs) : TyX K H v (.type "tuple") := by
  obtain ⟨a, vs, rfl, s, q⟩ := tupl_sq r
  exact ty_sqt s
theorem ty_tup {ts : Tys α} {d : α} (r : (yTup ts).rep K H F v d) : TyX K H v (.type "tuple") := by
  obtain ⟨a, vs, rfl, s, q⟩ := r
  exact ty_sqt s
end vals
/-! ### going on behind an expression -/
section cps
variable {K : PySem.W.Frag} {σ σ' : L2.St} {H : Hp} {F : List Addr} {ta tb te : TE} {v u x y : V} {i j : Int} {t : TT} {b c : Bool} {α β : Type} {τ : Ty α} {Q : VK} {D : Ends} {t1 t2 : TS}
theorem c_val (h : Val te σ H v) (k : Q v H) : te σ H Q := h Q k
theorem c_ans {Q : Bool → Hp → Prop} (h : Ans t σ H b) (k : Q b H) : t σ H Q := h Q k
theorem c_if {A B : Prop} (h1 : b = true → A) (h2 : b = false → B) : if b = true then A else B := by
  cases b with
  | true => exact iteT (h1 rfl)
  | false => exact iteF (h2 rfl)
theorem s_if (h : Ans t σ H b) (h1 : b = true → t1 D σ H) (h2 : b = false → t2 D σ H) : tIfS t t1 t2 D σ H := h _ (c_if h1 h2)
/-- x = e -/
theorem s_set {i : Nat} (h : Val te σ H v) (e : σ.set i (some v) = σ') (k : D.nx σ' H) : tAsg te (gName i) D σ H := h _ (by show D.nx (σ.set i (some v)) H; rw [e]; exact k)
theorem s_setI {i : Nat} {n m : Int} (h : Val te σ H (.int n)) (en : n = m) (e : σ.set i (some (.int m)) = σ') (k : D.nx σ' H) : tAsg te (gName i) D σ H := s_set (v := .int m) (en ▸ h) e k
theorem s_seq (h : t1 { D with nx := t2 D } σ H) : tSeq t1 t2 D σ H := h
/-- a join: R is what holds where the ways come together -/
theorem s_join {R : L2.St → Hp → Prop} (w : ∀ nx : L2.St → Hp → Prop, (∀ σ' H', R σ' H' → nx σ' H') → t1 { D with nx := nx } σ H) (k : ∀ σ' H', R σ' H' → t2 D σ' H') : tSeq t1 t2 D σ H := w _ k
theorem g_name {i : Nat} {Q : L2.St → Hp → Prop} (e : σ.set i (some v) = σ') (k : Q σ' H) : gName i v σ H Q := by show Q (σ.set i (some v)) H; rw [e]; exact k
theorem g_nameI {i : Nat} {n m : Int} {Q : L2.St → Hp → Prop} (en : n = m) (e : σ.set i (some (.int m)) = σ') (k : Q σ' H) : gName i (.int n) σ H Q := g_name (v := .int n) (by rw [en]; exact e) k
/-- a list, a tuple is made -/
theorem sz {n : Nat} (h : n ≤ Mi.big) : n ≤ sizeLine := Nat.le_trans h line_big
theorem c_lst {ts : TA} (h : ts σ H fun xs H1 => xs.length ≤ Mi.big ∧ ∀ p, H1 p = none → Q (.ref p) (upd H1 p (.lst xs))) (mono : ∀ Q Q' : List V → Hp → Prop, (∀ xs H1, Q xs H1 → Q' xs H1) → ts σ H Q → ts σ H Q') : L2.tLst ts σ H Q := mono _ _ (fun xs H1 z => ⟨sz z.1, z.2⟩) h
/-- values of arguments -/
def VaA (t : TA) (σ : L2.St) (H : Hp) (vs : List V) : Prop := ∀ Q : List V → Hp → Prop, Q vs H → t σ H Q
theorem va_nil : VaA tNil σ H [] := fun Q q => q
theorem va_cons {tr : TA} {vs : List V} (h : Val ta σ H v) (r : VaA tr σ H vs) : VaA (tCons ta tr) σ H (v :: vs) := fun Q q => h _ (r _ q)
theorem n_lst {ts : TA} {vs : List V} {xs : List α} (h : VaA ts σ H vs) (z : vs.length ≤ Mi.big) (r : Paired (fun u x => τ.rep K H [] u x) vs xs)
    (k : ∀ p H', H p = none → Chg [] H H' → (yLst τ).rep K H' [p] (.ref p) xs → Q (.ref p) H') : L2.tLst ts σ H Q := h _ ⟨sz z, fun p np => k p _ np (Chg.new np)
      ⟨p, vs, rfl, rfl, upd_same, Paired.mapP r fun u x q => Ty.ex q (Chg.new np)⟩⟩
theorem n_tup {ts : TA} {ty : Tys α} {vs : List V} {d : α} {F : List Addr} (h : VaA ts σ H vs) (z : vs.length ≤ Mi.big) (r : ty.rep K H F vs d)
    (k : ∀ p H', H p = none → Chg [] H H' → (yTup ty).rep K H' F (.ref p) d → Q (.ref p) H') : L2.tTup ts σ H Q := h _ ⟨sz z, fun p np => k p _ np (Chg.new np)
      ⟨p, vs, rfl, .inl (.inl upd_same), ty.keep r fun b o e _ => by rw [upd_ne (ne_of_none e np)]; exact e⟩⟩
/-- xs.append(e) -/
theorem m_app {xs ys : List α} {d : α} (r : (yLst τ).rep K H F v xs) (ru : τ.rep K H [] u d) (hm : Mi.app xs d = some ys) (k : ∀ H', Chg F H H' → (yLst τ).rep K H' F v ys → Q .non H') : rAppend v [u] H Q := by
  obtain ⟨p, vs, rfl, rfl, g, q⟩ := r
  unfold Mi.app at hm
  split at hm
  · rename_i hz
    cases hm
    have c : Chg [p] H (upd H p (.lst (vs ++ [u]))) := Chg.wr g (fun z => z)
    refine ⟨p, vs, u, rfl, rfl, g, Nat.lt_of_lt_of_le (by rw [pr_len q]; exact hz) line_big, k _ c ⟨p, _, rfl, rfl, upd_same, ?_⟩⟩
    exact pr_app (Paired.mapP q fun _ _ z => Ty.fz z c) (.cons (Ty.fz ru c) .nil)
  · cases hm
/-- xs[i] = e -/
theorem m_set {xs ys : List α} {d : α} {Q : Hp → Prop} (r : (yLst τ).rep K H F v xs) (ru : τ.rep K H [] u d) (hm : Mi.setAt xs i d = some ys) (k : ∀ H', Chg F H H' → (yLst τ).rep K H' F v ys → Q H') : rSetL v (.int i) u H Q := by
  obtain ⟨p, vs, rfl, rfl, g, q⟩ := r
  unfold Mi.setAt at hm
  obtain ⟨j, e, hm⟩ := Mi.bnd hm
  cases hm
  have c : Chg [p] H (upd H p (.lst (vs.set j u))) := Chg.wr g (fun z => z)
  refine ⟨p, vs, i, j, rfl, rfl, g, by rw [pr_len q]; exact e, k _ c ⟨p, _, rfl, rfl, upd_same, ?_⟩⟩
  exact pr_set (Ty.fz ru c) j (Paired.mapP q fun _ _ z => Ty.fz z c)
end cps
end G

namespace G
open PySem PySem.Spec PyProof.Rows L2
/-- the built-in names that the program leaves as they are -/
structure Bi (mg : Str → Option Value) : Prop where
  len : mg "len" = none
  range : mg "range" = none
  int : mg "int" = none
  bool : mg "bool" = none
  isinstance : mg "isinstance" = none
  max : mg "max" = none
  min : mg "min" = none
  list : mg "list" = none
  tuple : mg "tuple" = none
  sorted : mg "sorted" = none
  set : mg "set" = none
  enumerate : mg "enumerate" = none
  zip : mg "zip" = none
  reversed : mg "reversed" = none
  sum : mg "sum" = none
  any : mg "any" = none
  all : mg "all" = none
  str : mg "str" = none
/-- a def of the text stands under its name -/
structure Dfn (K : PySem.W.Frag) (mg : Str → Option Value) (x : Str) (st : Stmt) : Prop where
  ex : ∃ f fd, Fun K x x st f fd ∧ mg x = some (.ref f)
/-- a def may be called by its name and keeps its promise -/
structure Cal (P : Program) (w : World) (K : PySem.W.Frag) (mg : Str → Option Value) (x : Str) (ps : List Str) (k : Nat) (sp : Sp) : Prop where
  ex : ∃ f fd, mg x = some (.ref f) ∧ PySem.W.keepIn K (.ref f) = true ∧ (∀ (s : Shared) (us : List Value), us.length = ps.length → BindsTo s fd ⟨us, []⟩ (ps.zip us)) ∧ ∀ base : Heap, FnOk P w K mg base CX0 k f fd ps sp
theorem pe_cc {X : Cx} {x : Str} {ps : List Str} {j k : Nat} {sp : Sp} {p pos : Pos} {e : Expr} {es : List Expr} {t : TA} (C : Cal X.prog X.w X.K X.mg x ps j sp) (hr : Room k X.A) (ha : PA X (e :: es) t) (hj : j ≤ k := by decide) (hg : Gl X x := by rfl)
    (hd : (x == ("__debug__" : Str)) = false := by decide) (he : starEach (e :: es) X.env = (false, eval e X.env) :: starEach es X.env := by rfl)
    (hpl : (backTo pos (starEach es X.env)).any (·.1) = false := by rfl) :
    PE X (.Call (.Name x p) (e :: es) [] pos) (tCall sp [] E0 t) := by
  obtain ⟨f, fd, g, kp, b, F⟩ := C.ex
  exact pe_call (F X.base) (hr.mono hj) hg g kp (fun s us _ hl => by rw [List.append_nil] at hl ⊢; exact b s us hl) .nil pass0 ha hd he hpl
theorem bindsF {K : PySem.W.Frag} {x qual : Str} {st : Stmt} {f : Addr} {fd : FuncData} {ps : List Str} (F : Fun K x qual st f fd)
    (h : ∀ (kV doc pm : Value) (an : Option Addr) (cdv ct : Value) (us : List Value), us.length = ps.length → bindArgs (PySem.W.fnOf x qual (defArgs st) (defBody st) (defScope st) .none kV doc pm an cdv ct) ⟨us, []⟩ = pure (ps.zip us)) (s : Shared) (us : List Value) (hl : us.length = ps.length) : BindsTo s fd ⟨us, []⟩ (ps.zip us) := by
  obtain ⟨oc, od, kV, doc, pm, an, cdv, ct, osl, rfl, lk, hcd⟩ := F.ex
  exact .of_eq (h kV doc pm an cdv ct us hl)
end G

namespace G
open PySem PySem.Spec PyProof.Rows L2
section
variable {K : PySem.W.Frag} {σ σ' : L2.St} {H : Hp} {F : List Addr} {ta tb te : TE} {v u x y : V} {i j : Int} {t tu : TT} {b c a : Bool} {α β : Type} {τ : Ty α} {Q : VK} {D : Ends} {t1 t2 : TS}
theorem val_add (ha : Val ta σ H (.int i)) (hb : Val tb σ H (.int j)) : Val (tOp (rI0 fun i j => .int (i + j)) ta tb) σ H (.int (i + j)) := val_I0 ha hb
theorem val_sub (ha : Val ta σ H (.int i)) (hb : Val tb σ H (.int j)) : Val (tOp (rI0 fun i j => .int (i - j)) ta tb) σ H (.int (i - j)) := val_I0 ha hb
theorem val_lt (ha : Val ta σ H (.int i)) (hb : Val tb σ H (.int j)) : Val (tOp (rI0 fun i j => .bl (decide (i < j))) ta tb) σ H (.bl (decide (i < j))) := val_I0 (g := fun i j => .bl (decide (i < j))) ha hb
theorem val_le (ha : Val ta σ H (.int i)) (hb : Val tb σ H (.int j)) : Val (tOp (rI0 fun i j => .bl (decide (i ≤ j))) ta tb) σ H (.bl (decide (i ≤ j))) := val_I0 (g := fun i j => .bl (decide (i ≤ j))) ha hb
theorem val_gt (ha : Val ta σ H (.int i)) (hb : Val tb σ H (.int j)) : Val (tOp (rI0 fun i j => .bl (decide (j < i))) ta tb) σ H (.bl (decide (j < i))) := val_I0 (g := fun i j => .bl (decide (j < i))) ha hb
theorem val_ge (ha : Val ta σ H (.int i)) (hb : Val tb σ H (.int j)) : Val (tOp (rI0 fun i j => .bl (decide (j ≤ i))) ta tb) σ H (.bl (decide (j ≤ i))) := val_I0 (g := fun i j => .bl (decide (j ≤ i))) ha hb
theorem val_neg (ha : Val ta σ H (.int i)) : Val (tUn (rU fun i => .int (-i)) ta) σ H (.int (-i)) := val_U (g := fun i => .int (-i)) ha
theorem val_mulL (ha : Val ta σ H (.int i)) (hb : Val tb σ H (.int j)) (h : -(2 ^ 64) < i ∧ i < 2 ^ 64) : Val (tOp (rI CMul fun i j => .int (i * j)) ta tb) σ H (.int (i * j)) := val_I (g := fun i j => .int (i * j)) ha hb (.inl h)
theorem val_mulR (ha : Val ta σ H (.int i)) (hb : Val tb σ H (.int j)) (h : -(2 ^ 64) < j ∧ j < 2 ^ 64) : Val (tOp (rI CMul fun i j => .int (i * j)) ta tb) σ H (.int (i * j)) := val_I (g := fun i j => .int (i * j)) ha hb (.inr h)
theorem val_modc (ha : Val ta σ H (.int i)) (hb : Val tb σ H (.int j)) (h : 0 < j) : Val (tOp (rI (fun _ j => 0 < j) fun i j => .int (i % j)) ta tb) σ H (.int (i % j)) := val_I (g := fun i j => .int (i % j)) ha hb h
theorem val_divc (ha : Val ta σ H (.int i)) (hb : Val tb σ H (.int j)) (h : CDiv i j) : Val (tOp (rI CDiv fun i j => .int (i / j)) ta tb) σ H (.int (i / j)) := val_I (g := fun i j => .int (i / j)) ha hb h
theorem val_pow {n : Nat} (ha : Val ta σ H (.int i)) (hb : Val tb σ H (.int j)) (e : j = (n : Int)) (hn : n ≤ 1000000) (h : i.natAbs < 2 ^ 64) : Val (tOp (rI CPow fun i j => .int (i ^ j.toNat)) ta tb) σ H (.int (i ^ n)) := by
  subst e
  exact val_I (g := fun i j => .int (i ^ j.toNat)) ha hb ⟨by omega, by omega, h⟩
theorem val_shl {n : Nat} (ha : Val ta σ H (.int i)) (hb : Val tb σ H (.int j)) (h : CPow i j) : Val (tOp (rI CPow fun i j => .int (i * 2 ^ j.toNat)) ta tb) σ H (.int (i * 2 ^ j.toNat)) := val_I (g := fun i j => .int (i * 2 ^ j.toNat)) ha hb h
theorem val_shr (ha : Val ta σ H (.int i)) (hb : Val tb σ H (.int j)) (h : 0 ≤ j) : Val (tOp (rI (fun _ j => 0 ≤ j) fun i j => .int (i / 2 ^ j.toNat)) ta tb) σ H (.int (i / 2 ^ j.toNat)) := val_I (g := fun i j => .int (i / 2 ^ j.toNat)) ha hb h
theorem ans_B (h : Val te σ H (.bl b)) : Ans (tB te) σ H b := ans_val h
theorem ans_N (h : Ans t σ H b) : Ans (tNot t) σ H (!b) := ans_not h
theorem ans_andB (h1 : Ans t σ H a) (h2 : a = true → Ans tu σ H b) : Ans (tAnd t tu) σ H (a && b) := by
  cases a with
  | true => exact ans_and h1 (h2 rfl)
  | false => exact ans_and0 h1
theorem ans_orB (h1 : Ans t σ H a) (h2 : a = false → Ans tu σ H b) : Ans (tOr t tu) σ H (a || b) := by
  cases a with
  | true => exact ans_or1 h1
  | false => exact ans_or h1 (h2 rfl)
theorem ans_andO {m : Option Bool} (h1 : Ans t σ H a) (hc : (if a = true then m else some false) = some c) (h2 : m = some c → Ans tu σ H c) : Ans (tAnd t tu) σ H c := by
  cases a with
  | true => exact ans_and h1 (h2 hc)
  | false => cases hc; exact ans_and0 h1
theorem ans_orO {m : Option Bool} (h1 : Ans t σ H a) (hc : (if a = true then some true else m) = some c) (h2 : m = some c → Ans tu σ H c) : Ans (tOr t tu) σ H c := by
  cases a with
  | true => cases hc; exact ans_or1 h1
  | false => exact ans_or h1 (h2 hc)
theorem val_notV (h : Val ta σ H (.bl a)) : Val (tNotV ta) σ H (.bl (!a)) := fun Q q => h _ ⟨a, rfl, q⟩
theorem val_andV (h1 : Val ta σ H (.bl a)) (h2 : a = true → Val tb σ H (.bl b)) : Val (tAndV ta tb) σ H (.bl (a && b)) := fun Q q => h1 _ ⟨a, rfl, by
  cases a with
  | true => exact iteT (h2 rfl Q q)
  | false => exact iteF q⟩
theorem val_orV (h1 : Val ta σ H (.bl a)) (h2 : a = false → Val tb σ H (.bl b)) : Val (tOrV ta tb) σ H (.bl (a || b)) := fun Q q => h1 _ ⟨a, rfl, by
  cases a with
  | true => exact iteT q
  | false => exact iteF (h2 rfl Q q)⟩
theorem val_andVO {m : Option Bool} (h1 : Val ta σ H (.bl a)) (hc : (if a = true then m else some false) = some c) (h2 : m = some c → Val tb σ H (.bl c)) : Val (tAndV ta tb) σ H (.bl c) := fun Q q => h1 _ ⟨a, rfl, by
  cases a with
  | true => exact iteT (h2 hc Q q)
  | false => cases hc; exact iteF q⟩
theorem val_orVO {m : Option Bool} (h1 : Val ta σ H (.bl a)) (hc : (if a = true then some true else m) = some c) (h2 : m = some c → Val tb σ H (.bl c)) : Val (tOrV ta tb) σ H (.bl c) := fun Q q => h1 _ ⟨a, rfl, by
  cases a with
  | true => cases hc; exact iteT q
  | false => exact iteF (h2 hc Q q)⟩
/-! ### readings taken apart -/
theorem w_op {r : R2} (h : ta σ H fun x H1 => tb σ H1 fun y H2 => r x y H2 Q) : tOp r ta tb σ H Q := h
theorem w_un {r : V → Hp → VK → Prop} (h : ta σ H fun x H1 => r x H1 Q) : tUn r ta σ H Q := h
theorem w_cb {r : List V → Hp → VK → Prop} {ts : TA} (h : ts σ H fun vs H1 => r vs H1 Q) : tCB r ts σ H Q := h
theorem w_call {sp : Sp} {dvs : List V} {E : XK} {ts : TA} (h : ts σ H fun vs H1 => sp (vs ++ dvs) H1 Q E) : tCall sp dvs E ts σ H Q := h
theorem w_cons {tr : TA} {Q : List V → Hp → Prop} (h : ta σ H fun x H1 => tr σ H1 fun xs H2 => Q (x :: xs) H2) : tCons ta tr σ H Q := h
theorem w_nil {Q : List V → Hp → Prop} (h : Q [] H) : tNil σ H Q := h
theorem w_args {ts : TA} {vs : List V} {Q : List V → Hp → Prop} (h : VaA ts σ H vs) (k : Q vs H) : ts σ H Q := h Q k
def LstG (xs : List V) (H : Hp) (Q : VK) : Prop := xs.length ≤ sizeLine ∧ ∀ p, H p = none → Q (.ref p) (upd H p (.lst xs))
def TupG (xs : List V) (H : Hp) (Q : VK) : Prop := xs.length ≤ sizeLine ∧ ∀ p, H p = none → Q (.ref p) (upd H p (.tup xs))
theorem w_lst {ts : TA} (h : ts σ H fun xs H1 => LstG xs H1 Q) : L2.tLst ts σ H Q := h
theorem w_tup {ts : TA} (h : ts σ H fun xs H1 => TupG xs H1 Q) : L2.tTup ts σ H Q := h
theorem w_test {Q : Bool → Hp → Prop} (h : te σ H fun x H' => ∃ k, x = .bl k ∧ Q k H') : tTest te σ H Q := h
theorem w_B {Q : Bool → Hp → Prop} (h : te σ H fun x H' => ∃ k, x = .bl k ∧ Q k H') : tB te σ H Q := h
theorem w_bl {Q : Bool → Hp → Prop} (k : Q b H) : ∃ k, V.bl b = .bl k ∧ Q k H := ⟨b, rfl, k⟩
theorem w_not {Q : Bool → Hp → Prop} (h : t σ H fun c H1 => Q (!c) H1) : tNot t σ H Q := h
theorem w_and {Q : Bool → Hp → Prop} (h : t σ H fun c H1 => if c = true then tu σ H1 Q else Q false H1) : tAnd t tu σ H Q := h
theorem w_or {Q : Bool → Hp → Prop} (h : t σ H fun c H1 => if c = true then Q true H1 else tu σ H1 Q) : tOr t tu σ H Q := h
theorem w_andV (h : ta σ H fun x H1 => ∃ c, x = .bl c ∧ if c = true then tb σ H1 Q else Q (.bl false) H1) : tAndV ta tb σ H Q := h
theorem w_orV (h : ta σ H fun x H1 => ∃ c, x = .bl c ∧ if c = true then Q (.bl true) H1 else tb σ H1 Q) : tOrV ta tb σ H Q := h
theorem w_notV (h : ta σ H fun x H1 => ∃ c, x = .bl c ∧ Q (.bl (!c)) H1) : tNotV ta σ H Q := h
theorem w_blV {P : Bool → Prop} (k : P b) : ∃ k, V.bl b = .bl k ∧ P k := ⟨b, rfl, k⟩
theorem w_I0 {g : Int → Int → V} (k : Q (g i j) H) : rI0 g (.int i) (.int j) H Q := ⟨i, j, rfl, rfl, k⟩
theorem w_I {C : Int → Int → Prop} {g : Int → Int → V} (hc : C i j) (k : Q (g i j) H) : rI C g (.int i) (.int j) H Q := ⟨i, j, rfl, rfl, hc, k⟩
theorem w_U {g : Int → V} (k : Q (g i) H) : rU g (.int i) H Q := ⟨i, rfl, k⟩
theorem w_mul {r : Int} (h : Mi.mul i j = some r) (k : Q (.int r) H) : rI CMul (fun i j => .int (i * j)) (.int i) (.int j) H Q := ⟨i, j, rfl, rfl, (mulC h).1, by show Q (.int (i * j)) H; rw [(mulC h).2]; exact k⟩
theorem w_mod {r : Int} (h : Mi.mod i j = some r) (k : Q (.int r) H) : rI (fun _ j => 0 < j) (fun i j => .int (i % j)) (.int i) (.int j) H Q := ⟨i, j, rfl, rfl, (modC h).1, by show Q (.int (i % j)) H; rw [(modC h).2]; exact k⟩
theorem w_fdiv {r : Int} (h : Mi.fdiv i j = some r) (k : Q (.int r) H) : rI CDivW (fun i j => .int (i / j)) (.int i) (.int j) H Q := ⟨i, j, rfl, rfl, (divC h).1, by show Q (.int (i / j)) H; rw [(divC h).2]; exact k⟩
theorem w_eqI (k : Q (.bl (decide (i = j))) H) : rEq (.int i) (.int j) H Q := ⟨rfl, by rw [dI]; exact k⟩
theorem w_neI (k : Q (.bl (!decide (i = j))) H) : rNe (.int i) (.int j) H Q := ⟨rfl, by rw [dI]; exact k⟩
theorem w_eqB (k : Q (.bl (decide (b = c))) H) : rEq (.bl b) (.bl c) H Q := ⟨rfl, by rw [dB]; exact k⟩
theorem w_neB (k : Q (.bl (!decide (b = c))) H) : rNe (.bl b) (.bl c) H Q := ⟨rfl, by rw [dB]; exact k⟩
theorem w_int (k : Q (.int i) H) : rInt1 [.int i] H Q := .inl ⟨i, rfl, k⟩
theorem w_max2 (k : Q (.int (max i j)) H) : rMax2 [.int i, .int j] H Q := ⟨i, j, rfl, by
  have e : (if j > i then j else i) = max i j := by split <;> omega
  rw [e]; exact k⟩
theorem w_min2 (k : Q (.int (min i j)) H) : rMin2 [.int i, .int j] H Q := ⟨i, j, rfl, by
  have e : (if j < i then j else i) = min i j := by split <;> omega
  rw [e]; exact k⟩
theorem w_lenL {xs : List α} (r : (yLst τ).rep K H F v xs) (k : Q (.int (xs.length : Int)) H) : rLenQ K [v] H Q := by
  obtain ⟨a, vs, e, s, q⟩ := lst_sq r
  subst e
  exact ⟨a, vs, rfl, .inl s, by rw [pr_len q]; exact k⟩
theorem w_lenT {xs : List α} (r : (yTupL τ).rep K H F v xs) (k : Q (.int (xs.length : Int)) H) : rLenQ K [v] H Q := by
  obtain ⟨a, vs, e, s, q⟩ := tupl_sq r
  subst e
  exact ⟨a, vs, rfl, .inr s, by rw [pr_len q]; exact k⟩
theorem w_ixL {xs : List α} {x : α} (r : (yLst τ).rep K H F v xs) (h : Mi.at_ xs i = some x) (k : ∀ u, τ.rep K H [] u x → Q u H) : rIxL K v (.int i) H Q := by
  obtain ⟨a, vs, e, s, q⟩ := lst_sq r
  subst e
  obtain ⟨u, e, ru⟩ := pr_at q h
  exact ⟨a, vs, i, u, rfl, rfl, s, e, k u ru⟩
theorem w_ixT {xs : List α} {x : α} (r : (yTupL τ).rep K H F v xs) (h : Mi.at_ xs i = some x) (k : ∀ u, τ.rep K H [] u x → Q u H) : rIxT K v (.int i) H Q := by
  obtain ⟨a, vs, e, s, q⟩ := tupl_sq r
  subst e
  obtain ⟨u, e, ru⟩ := pr_at q h
  exact ⟨a, vs, i, u, rfl, rfl, s, e, k u ru⟩
theorem e_lst {vs : List V} {xs : List α} (z : vs.length ≤ Mi.big) (r : Paired (fun u x => τ.rep K H [] u x) vs xs) (k : ∀ p H', H p = none → Chg [] H H' → (yLst τ).rep K H' [p] (.ref p) xs → Q (.ref p) H') :
    LstG vs H Q := ⟨sz z, fun p np => k p _ np (Chg.new np)
      ⟨p, vs, rfl, rfl, upd_same, Paired.mapP r fun u x q => Ty.ex q (Chg.new np)⟩⟩
theorem e_tup {ty : Tys α} {vs : List V} {d : α} {F : List Addr} (z : vs.length ≤ Mi.big) (r : ty.rep K H F vs d) (k : ∀ p H', H p = none → Chg [] H H' → (yTup ty).rep K H' F (.ref p) d → Q (.ref p) H') :
    TupG vs H Q := ⟨sz z, fun p np => k p _ np (Chg.new np)
      ⟨p, vs, rfl, .inl (.inl upd_same), ty.keep r fun b o e _ => by rw [upd_ne (ne_of_none e np)]; exact e⟩⟩
/-! ### statements -/
theorem w_asg {g : TG} (h : te σ H fun x H1 => g x σ H1 D.nx) : tAsg te g D σ H := h
theorem w_drop (h : te σ H fun _ H1 => D.nx σ H1) : tDrop te D σ H := h
theorem w_ret (h : te σ H D.rt) : tRet te D σ H := h
theorem w_retN (h : D.rt .non H) : tRetN D σ H := h
theorem w_next (h : D.nx σ H) : tNext D σ H := h
theorem w_cont (h : D.ct σ H) : tCont D σ H := h
theorem w_break (h : D.bk σ H) : tBreak D σ H := h
theorem w_ifS (h : t σ H fun b H1 => if b = true then t1 D σ H1 else t2 D σ H1) : tIfS t t1 t2 D σ H := h
theorem w_ifE (h : t σ H fun c H1 => if c = true then ta σ H1 Q else tb σ H1 Q) : tIf t ta tb σ H Q := h
theorem w_gsub {to ti : TE} {ts : TSet} {Q : L2.St → Hp → Prop} (h : to σ H fun o H1 => ti σ H1 fun i H2 => ts o i v H2 fun H3 => Q σ H3) : gSub to ti ts v σ H Q := h
theorem w_bm {T : String} {r : V → List V → Hp → VK → Prop} {to : TE} {ts : TA} (h : to σ H fun x H1 => tyV K T x H1 ∧ ts σ H1 fun xs H2 => r x xs H2 Q) : tBM K T r to ts σ H Q := h
theorem w_bm0 {T : String} {r : V → List V → Hp → VK → Prop} {to : TE} (h : to σ H fun x H1 => tyV K T x H1 ∧ r x [] H1 Q) : tBM0 K T r to σ H Q := h
theorem tyv_lst {xs : List α} (r : (yLst τ).rep K H F v xs) : tyV K "list" v H := by
  obtain ⟨a, vs, rfl, s, q⟩ := lst_sq r
  exact .inl ⟨rfl, _, s⟩
/-- a join of tests -/
theorem j_tt {R : Hp → Prop} {Q : Bool → Hp → Prop} (c : Bool) (w : ∀ Q' : Bool → Hp → Prop, (∀ H', R H' → Q' c H') → t σ H Q') (k : ∀ H', R H' → Q c H') : t σ H Q := w Q k
theorem j_te {R : Hp → Prop} (x : V) (w : ∀ Q' : VK, (∀ H', R H' → Q' x H') → te σ H Q') (k : ∀ H', R H' → Q x H') : te σ H Q := w Q k
/-! ### statements with what follows -/
theorem q_asg {g : TG} (h : te σ H fun x H1 => g x σ H1 (t2 D)) : tSeq (tAsg te g) t2 D σ H := h
theorem q_setE {k : Nat} {w : V} (h : Val te σ H v) (ev : v = w) (e : σ.set k (some w) = σ') (q : t2 D σ' H) : tSeq (tAsg te (gName k)) t2 D σ H := by
  subst ev
  exact h _ (by show t2 D (σ.set k (some v)) H; rw [e]; exact q)
theorem q_drop (h : te σ H fun _ H1 => t2 D σ H1) : tSeq (tDrop te) t2 D σ H := h
theorem q_ret (h : te σ H D.rt) : tSeq (tRet te) t2 D σ H := h
theorem q_retN (h : D.rt .non H) : tSeq tRetN t2 D σ H := h
theorem q_pass (h : t2 D σ H) : tSeq tNext t2 D σ H := h
theorem q_cont (h : D.ct σ H) : tSeq tCont t2 D σ H := h
theorem q_brk (h : D.bk σ H) : tSeq tBreak t2 D σ H := h
theorem q_if {t3 : TS} (h : Ans t σ H b) (h1 : b = true → t1 { D with nx := t2 D } σ H) (h2 : b = false → t3 { D with nx := t2 D } σ H) : tSeq (tIfS t t1 t3) t2 D σ H := h _ (c_if h1 h2)
theorem q_ifS {t3 : TS} (h : t σ H fun b H1 => if b = true then t1 { D with nx := t2 D } σ H1 else t3 { D with nx := t2 D } σ H1) : tSeq (tIfS t t1 t3) t2 D σ H := h
theorem w_fall (h : t2 D σ H) : tNext { D with nx := t2 D } σ H := h
theorem w_nextJ {nx bk ct : L2.St → Hp → Prop} {rt : VK} (h : nx σ H) : tNext (Ends.mk nx rt bk ct) σ H := h
theorem q_aug {k : Nat} {f : Int → Int → Int} {m n p : Int} (hx : σ[k]? = some (some (.int m))) (h : Val te σ H (.int n)) (en : f m n = p) (e : σ.set k (some (.int p)) = σ') (q : t2 D σ' H) : tSeq (tAug k te (ipI f)) t2 D σ H :=
  ⟨_, hx, h _ ⟨m, n, rfl, rfl, by rw [en]; show t2 D (List.set σ k (some (.int p))) H; rw [e]; exact q⟩⟩
/-! ### loops -/
def LoopG (J : It) (g : TG) (tb : TS) (D : Ends) (nx : L2.St → Hp → Prop) (σ : L2.St) (H : Hp) : Prop := ∃ W : Nat → Nat → L2.St → Hp → Prop, (∃ m, W 0 m σ H) ∧ ∀ i m σ H, W i m σ H →
  (J.stop i H ∧ nx σ H) ∨ (J.go i H ∧ ∃ N : L2.St → Hp → Prop, (∀ σ' H', N σ' H' → ∃ m', m' < m ∧ W (i + 1) m' σ' H') ∧ ∀ x H', J.yld i H x H' → g x σ H' fun σ2 H2 => tb { D with nx := N, ct := N, bk := nx } σ2 H2)
theorem q_for {wi : TI} {g : TG} {tb : TS} (h : wi σ H fun J H1 => LoopG J g tb D (t2 D) σ H1) : tSeq (tFor wi g tb) t2 D σ H := h
theorem w_iList {tl : TE} {R : It → Hp → Prop} (h : tl σ H fun x H1 => ∃ a, x = .ref a ∧ (∃ xs, SqL K H1 a xs) ∧ R (Itl K a) H1) : iList K tl σ H R := h
theorem w_iTup {tl : TE} {R : It → Hp → Prop} (h : tl σ H fun x H1 => ∃ a, x = .ref a ∧ (∃ xs, SqT K H1 a xs) ∧ R (Itt K a) H1) : iTup K tl σ H R := h
theorem w_iRng1 {ts : TA} {R : It → Hp → Prop} (h : ts σ H fun vs H1 => ∃ j : Int, vs = [.int j] ∧ -(2 ^ 62) ≤ j ∧ j < 2 ^ 62 ∧ R (Itr 0 j.toNat) H1) : iRng1 ts σ H R := h
theorem w_iRng2 {ts : TA} {R : It → Hp → Prop} (h : ts σ H fun vs H1 => ∃ i j : Int, vs = [.int i, .int j] ∧ (-(2 ^ 62) ≤ i ∧ i < 2 ^ 62 ∧ -(2 ^ 62) ≤ j ∧ j < 2 ^ 62) ∧ R (Itr i (j - i).toNat) H1) : iRng2 ts σ H R := h
theorem rngO_some {lo hi : Int} {g : List Int} (h : Mi.rngO lo hi = some g) : g = Mi.rng lo hi ∧ (-(2 ^ 60) ≤ lo ∧ lo < 2 ^ 60) ∧ (-(2 ^ 60) ≤ hi ∧ hi < 2 ^ 60) := by
  unfold Mi.rngO at h
  split at h
  · rename_i c
    exact ⟨(Option.some.inj h).symm, c⟩
  · cases h
theorem rng_len (lo hi : Int) : (Mi.rng lo hi).length = (hi - lo).toNat := by unfold Mi.rng; rw [List.length_map, List.length_range]
theorem rng_at {lo hi : Int} {i : Nat} (h : i < (hi - lo).toNat) : (Mi.rng lo hi)[i]? = some (lo + i) := by
  unfold Mi.rng
  rw [List.getElem?_map, List.getElem?_range h]
  rfl
theorem l_rng {g : TG} {tb : TS} {nx : L2.St → Hp → Prop} {lo hi : Int} (Pv : Nat → L2.St → Hp → Prop) (h0 : Pv 0 σ H)
    (hs : ∀ (i : Nat) (x : Int) σ' H', (Mi.rng lo hi)[i]? = some x → Pv i σ' H' → g (.int x) σ' H' fun σ2 H2 => tb { D with nx := Pv (i + 1), ct := Pv (i + 1), bk := nx } σ2 H2) (hd : ∀ σ' H', Pv (Mi.rng lo hi).length σ' H' → nx σ' H') :
    LoopG (Itr lo (hi - lo).toNat) g tb D nx σ H := for_range (D := { D with nx := nx }) (lo := lo) (n := (hi - lo).toNat) Pv h0 (fun i σ' H' hi' p => hs i _ σ' H' (rng_at hi') p) (fun σ' H' p => hd σ' H' (by rw [rng_len]; exact p))
theorem l_rng1 {g : TG} {tb : TS} {nx : L2.St → Hp → Prop} {hi : Int} {xs : List Int} (hg : Mi.rngO 0 hi = some xs) (Pv : Nat → L2.St → Hp → Prop) (h0 : Pv 0 σ H)
    (hs : ∀ (i : Nat) (x : Int) σ' H', xs[i]? = some x → Pv i σ' H' → g (.int x) σ' H' fun σ2 H2 => tb { D with nx := Pv (i + 1), ct := Pv (i + 1), bk := nx } σ2 H2) (hd : ∀ σ' H', Pv xs.length σ' H' → nx σ' H') :
    ∃ j : Int, [V.int hi] = [.int j] ∧ -(2 ^ 62) ≤ j ∧ j < 2 ^ 62 ∧ LoopG (Itr 0 j.toNat) g tb D nx σ H := by
  obtain ⟨rfl, _, h1, h2⟩ := rngO_some hg
  refine ⟨hi, rfl, by omega, by omega, ?_⟩
  have e : hi.toNat = (hi - 0).toNat := by rw [Int.sub_zero]
  rw [e]
  exact l_rng Pv h0 hs hd
theorem l_rng2 {g : TG} {tb : TS} {nx : L2.St → Hp → Prop} {lo hi : Int} {xs : List Int} (hg : Mi.rngO lo hi = some xs) (Pv : Nat → L2.St → Hp → Prop) (h0 : Pv 0 σ H)
    (hs : ∀ (i : Nat) (x : Int) σ' H', xs[i]? = some x → Pv i σ' H' → g (.int x) σ' H' fun σ2 H2 => tb { D with nx := Pv (i + 1), ct := Pv (i + 1), bk := nx } σ2 H2) (hd : ∀ σ' H', Pv xs.length σ' H' → nx σ' H') :
    ∃ i j : Int, [V.int lo, V.int hi] = [.int i, .int j] ∧ (-(2 ^ 62) ≤ i ∧ i < 2 ^ 62 ∧ -(2 ^ 62) ≤ j ∧ j < 2 ^ 62) ∧ LoopG (Itr i (j - i).toNat) g tb D nx σ H := by
  obtain ⟨rfl, h1, h2⟩ := rngO_some hg
  exact ⟨lo, hi, rfl, by omega, l_rng Pv h0 hs hd⟩
theorem l_lst {g : TG} {tb : TS} {nx : L2.St → Hp → Prop} {xs : List α} (r : (yLst τ).rep K H F v xs) (Pv : Nat → L2.St → Hp → Prop) (h0 : Pv 0 σ H) (hl : ∀ i σ' H', Pv i σ' H' → (yLst τ).rep K H' F v xs)
    (hs : ∀ (i : Nat) (x : α) (u : V) σ' H', xs[i]? = some x → τ.rep K H' [] u x → Pv i σ' H' → g u σ' H' fun σ2 H2 => tb { D with nx := Pv (i + 1), ct := Pv (i + 1), bk := nx } σ2 H2) (hd : ∀ σ' H', Pv xs.length σ' H' → nx σ' H') :
    ∃ a, v = .ref a ∧ (∃ xs, SqL K H a xs) ∧ LoopG (Itl K a) g tb D nx σ H := by
  obtain ⟨a, vs, e, s, q⟩ := lst_sq r
  refine ⟨a, e, ⟨vs, s⟩, fun i m σ' H' => m = xs.length - i ∧ i ≤ xs.length ∧ Pv i σ' H', ⟨xs.length, by omega, Nat.zero_le _, h0⟩, ?_⟩
  rintro i m σ' H' ⟨rfl, hi, p⟩
  obtain ⟨a', vs', e', s', q'⟩ := lst_sq (hl i σ' H' p)
  obtain rfl : a = a' := by rw [e] at e'; exact V.ref.inj e'
  by_cases hlt : i < xs.length
  · obtain ⟨u, hu, ru⟩ := pr_get q' (List.getElem?_eq_getElem hlt)
    refine .inr ⟨⟨vs', u, s', hu⟩, Pv (i + 1), fun σ2 H2 p' => ⟨xs.length - (i + 1), by omega, rfl, hlt, p'⟩, fun x H2 y => ?_⟩
    obtain ⟨rfl, y⟩ := y
    obtain rfl : x = u := Option.some.inj ((y _ s').symm.trans hu)
    exact hs i _ _ σ' _ (List.getElem?_eq_getElem hlt) ru p
  · obtain rfl : i = xs.length := by omega
    exact .inl ⟨⟨vs', s', by rw [pr_len q']; exact Nat.le_refl _⟩, hd σ' H' p⟩
theorem l_tup {g : TG} {tb : TS} {nx : L2.St → Hp → Prop} {xs : List α} (r : (yTupL τ).rep K H F v xs) (Pv : Nat → L2.St → Hp → Prop) (h0 : Pv 0 σ H) (hl : ∀ i σ' H', Pv i σ' H' → (yTupL τ).rep K H' F v xs)
    (hs : ∀ (i : Nat) (x : α) (u : V) σ' H', xs[i]? = some x → τ.rep K H' [] u x → Pv i σ' H' → g u σ' H' fun σ2 H2 => tb { D with nx := Pv (i + 1), ct := Pv (i + 1), bk := nx } σ2 H2) (hd : ∀ σ' H', Pv xs.length σ' H' → nx σ' H') :
    ∃ a, v = .ref a ∧ (∃ xs, SqT K H a xs) ∧ LoopG (Itt K a) g tb D nx σ H := by
  obtain ⟨a, vs, e, s, q⟩ := tupl_sq r
  refine ⟨a, e, ⟨vs, s⟩, fun i m σ' H' => m = xs.length - i ∧ i ≤ xs.length ∧ Pv i σ' H', ⟨xs.length, by omega, Nat.zero_le _, h0⟩, ?_⟩
  rintro i m σ' H' ⟨rfl, hi, p⟩
  obtain ⟨a', vs', e', s', q'⟩ := tupl_sq (hl i σ' H' p)
  obtain rfl : a = a' := by rw [e] at e'; exact V.ref.inj e'
  by_cases hlt : i < xs.length
  · obtain ⟨u, hu, ru⟩ := pr_get q' (List.getElem?_eq_getElem hlt)
    refine .inr ⟨⟨vs', u, s', hu⟩, Pv (i + 1), fun σ2 H2 p' => ⟨xs.length - (i + 1), by omega, rfl, hlt, p'⟩, fun x H2 y => ?_⟩
    obtain ⟨rfl, y⟩ := y
    obtain rfl : x = u := Option.some.inj ((y _ s').symm.trans hu)
    exact hs i _ _ σ' _ (List.getElem?_eq_getElem hlt) ru p
  · obtain rfl : i = xs.length := by omega
    exact .inl ⟨⟨vs', s', by rw [pr_len q']; exact Nat.le_refl _⟩, hd σ' H' p⟩
end
/-! ### the items of tuples -/
/-- the n-th item has the kind τ and the data p d -/
def At {α β : Type} (ts : Tys α) (n : Nat) (τ : Ty β) (p : α → β) : Prop := ∀ {K : PySem.W.Frag} {H : Hp} {F : List Addr} {vs : List V} {d : α}, ts.rep K H F vs d → ∃ u F1, vs[n]? = some u ∧ τ.rep K H F1 u (p d) ∧ ∀ a ∈ F1, a ∈ F
theorem at1 {α : Type} {τ : Ty α} : At (sOne τ) 0 τ id := fun h => by
  obtain ⟨v, rfl, r⟩ := h
  exact ⟨v, _, rfl, r, fun _ h => h⟩
theorem at0 {α β : Type} {τ : Ty α} {ts : Tys β} : At (sCons τ ts) 0 τ (fun d => d.1) := fun h => by
  obtain ⟨v, ws, F1, F2, rfl, rfl, r, q⟩ := h
  exact ⟨v, F1, rfl, r, fun _ h => List.mem_append_left _ h⟩
theorem atS {α β γ : Type} {τ : Ty α} {ts : Tys β} {n : Nat} {υ : Ty γ} {p : β → γ} (A : At ts n υ p) : At (sCons τ ts) (n + 1) υ (fun d => p d.2) := fun h => by
  obtain ⟨v, ws, F1, F2, rfl, rfl, r, q⟩ := h
  obtain ⟨u, F3, e, ru, sub⟩ := A q
  exact ⟨u, F3, e, ru, fun _ h => List.mem_append_right _ (sub _ h)⟩
theorem Dj.sub {F G F1 : List Addr} (d : Dj F G) (s : ∀ a ∈ F1, a ∈ F) : Dj F1 G := fun a h => d a (s a h)
theorem itm_tup {α β : Type} {ts : Tys α} {n : Nat} {τ : Ty β} {p : α → β} {K : PySem.W.Frag} {H : Hp} {F : List Addr} {v : V} {d : α} (A : At ts n τ p) (r : (yTup ts).rep K H F v d) :
    ∃ u F1, τ.rep K H F1 u (p d) ∧ (∀ a ∈ F1, a ∈ F) ∧ (∀ {Q : VK}, Q u H → rIxT K v (.int (n : Int)) H Q) ∧ ∀ {σ : L2.St} {ta tb : TE}, Val ta σ H v → Val tb σ H (.int (n : Int)) → Val (tOp (rIxT K) ta tb) σ H u := by
  obtain ⟨a, vs, rfl, s, q⟩ := r
  obtain ⟨u, F1, e, ru, sub⟩ := A q
  have k : ∀ {Q : VK}, Q u H → rIxT K (.ref a) (.int (n : Int)) H Q := fun k => ⟨a, vs, n, u, rfl, rfl, s, atI_nat e, k⟩
  exact ⟨u, F1, ru, sub, k, fun ha hb => val_op ha hb fun Q q => k q⟩
end G

namespace G
open PySem PySem.Spec PyProof.Rows L2
section
variable {K : PySem.W.Frag} {σ σ' : L2.St} {H : Hp} {F G F1 F2 : List Addr} {ta tb te : TE} {v u x y w : V} {i j : Int} {t tu : TT} {b c a : Bool} {α β : Type} {τ : Ty α} {Q : VK} {D : Ends} {t1 t2 : TS}
theorem s_setE {k : Nat} (h : Val te σ H v) (ev : v = w) (e : σ.set k (some w) = σ') (q : D.nx σ' H) : tAsg te (gName k) D σ H := s_set (ev ▸ h) e q
theorem g_nameE {k : Nat} {Q : L2.St → Hp → Prop} (ev : v = w) (e : σ.set k (some w) = σ') (q : Q σ' H) : gName k v σ H Q := g_name (by rw [ev]; exact e) q
theorem s_aug {k : Nat} {f : Int → Int → Int} {m n p : Int} (hx : σ[k]? = some (some (.int m))) (h : Val te σ H (.int n)) (en : f m n = p) (e : σ.set k (some (.int p)) = σ') (q : D.nx σ' H) : tAug k te (ipI f) D σ H :=
  ⟨_, hx, h _ ⟨m, n, rfl, rfl, by rw [en]; show D.nx (List.set σ k (some (.int p))) H; rw [e]; exact q⟩⟩
/-! ### None or data -/
theorem nn_int : V.int i ≠ .non := fun z => nomatch z
theorem nn_bl : V.bl b ≠ .non := fun z => nomatch z
theorem nn_str {s : Str} : V.str s ≠ .non := fun z => nomatch z
theorem nn_lst {xs : List α} (r : (yLst τ).rep K H F v xs) : v ≠ .non := by obtain ⟨a, vs, rfl, _⟩ := r; exact fun z => nomatch z
theorem nn_tupl {xs : List α} (r : (yTupL τ).rep K H F v xs) : v ≠ .non := by obtain ⟨a, vs, rfl, _⟩ := r; exact fun z => nomatch z
theorem nn_tup {ts : Tys α} {d : α} (r : (yTup ts).rep K H F v d) : v ≠ .non := by obtain ⟨a, vs, rfl, _⟩ := r; exact fun z => nomatch z
theorem opt_some {d : Option α} {x : α} (r : (yOpt τ).rep K H F v d) (h : d = some x) : τ.rep K H F v x := by subst h; exact r.2
theorem opt_int {d : Option Int} {x : Int} (r : (yOpt yInt).rep K H F v d) (h : d = some x) : F = [] ∧ v = .int x := opt_some r h
theorem opt_bool {d : Option Bool} {x : Bool} (r : (yOpt yBool).rep K H F v d) (h : d = some x) : F = [] ∧ v = .bl x := opt_some r h
theorem opt_str {d : Option (List Nat)} {x : List Nat} (r : (yOpt yStr).rep K H F v d) (h : d = some x) : F = [] ∧ v = .str (toS x) := opt_some r h
theorem opt_dec {d : Option α} (r : (yOpt τ).rep K H F v d) : decide (v = .non) = d.isNone := by
  cases d with
  | none => obtain ⟨_, rfl⟩ := r; rfl
  | some x => exact decide_eq_false r.1
theorem opt_decN {d : Option α} (r : (yOpt τ).rep K H F v d) : (!decide (v = .non)) = d.isSome := by
  rw [opt_dec r]; cases d <;> rfl
theorem val_isN {d : Option α} (r : (yOpt τ).rep K H F v d) (ha : Val ta σ H v) : Val (tOp rIsN ta (tC .non)) σ H (.bl d.isNone) := val_op ha val_c fun Q q => ⟨rfl, by rw [opt_dec r]; exact q⟩
theorem val_notN {d : Option α} (r : (yOpt τ).rep K H F v d) (ha : Val ta σ H v) : Val (tOp rNotN ta (tC .non)) σ H (.bl d.isSome) := val_op ha val_c fun Q q => ⟨rfl, by rw [opt_decN r]; exact q⟩
theorem w_isN {d : Option α} (r : (yOpt τ).rep K H F v d) (k : Q (.bl d.isNone) H) : rIsN v .non H Q := ⟨rfl, by rw [opt_dec r]; exact k⟩
theorem w_notN {d : Option α} (r : (yOpt τ).rep K H F v d) (k : Q (.bl d.isSome) H) : rNotN v .non H Q := ⟨rfl, by rw [opt_decN r]; exact k⟩
/-! ### footprints -/
theorem Dj.app (d1 : Dj F1 G) (d2 : Dj F2 G) : Dj (F1 ++ F2) G := fun a h => (List.mem_append.mp h).elim (d1 a) (d2 a)
theorem app_fresh {H0 : Hp} (n1 : ∀ a ∈ F1, H0 a = none) (n2 : ∀ a ∈ F2, H0 a = none) : ∀ a ∈ F1 ++ F2, H0 a = none := fun a h => (List.mem_append.mp h).elim (n1 a) (n2 a)
theorem nil_fresh {H0 : Hp} : ∀ a ∈ ([] : List Addr), H0 a = none := fun a h => nomatch h
def Fz {α : Type} (τ : Ty α) : Prop := ∀ {K : PySem.W.Frag} {H : Hp} {F : List Addr} {v : V} {d : α}, τ.rep K H F v d → F = []
def Fzs {α : Type} (τ : Tys α) : Prop := ∀ {K : PySem.W.Frag} {H : Hp} {F : List Addr} {v : List V} {d : α}, τ.rep K H F v d → F = []
theorem fz_int : Fz yInt := fun h => h.1
theorem fz_bool : Fz yBool := fun h => h.1
theorem fz_str : Fz yStr := fun h => h.1
theorem fz_none : Fz yNon := fun h => h.1
theorem fz_scr : Fz yScr := fun h => h.1
theorem fz_tupl {τ : Ty α} : Fz (yTupL τ) := fun h => by obtain ⟨_, _, _, e, _⟩ := h; exact e
theorem fz_opt {τ : Ty α} (z : Fz τ) : Fz (yOpt τ) := fun {K H F v d} h => by
  cases d with
  | none => exact h.1
  | some x => exact z h.2
theorem fzs_one {τ : Ty α} (z : Fz τ) : Fzs (sOne τ) := fun h => by obtain ⟨_, _, r⟩ := h; exact z r
theorem fzs_cons {τ : Ty α} {ts : Tys β} (z : Fz τ) (zs : Fzs ts) : Fzs (sCons τ ts) := fun h => by
  obtain ⟨_, _, F1, F2, _, e, r, q⟩ := h
  rw [e, z r, zs q]; rfl
theorem fz_tup {ts : Tys α} (z : Fzs ts) : Fz (yTup ts) := fun h => by obtain ⟨_, _, _, _, r⟩ := h; exact z r
def LenS {α : Type} (ts : Tys α) (n : Nat) : Prop := ∀ {K : PySem.W.Frag} {H : Hp} {F : List Addr} {vs : List V} {d : α}, ts.rep K H F vs d → vs.length = n
theorem lens_one {τ : Ty α} : LenS (sOne τ) 1 := fun h => by obtain ⟨_, e, _⟩ := h; rw [e]; rfl
theorem lens_cons {τ : Ty α} {ts : Tys β} {n : Nat} (z : LenS ts n) : LenS (sCons τ ts) (n + 1) := fun h => by
  obtain ⟨_, _, _, _, e, _, _, q⟩ := h
  rw [e, List.length_cons, z q]
theorem val_lenU {ts : Tys α} {d : α} {n : Nat} (l : LenS ts n) (r : (yTup ts).rep K H F v d) (ha : Val ta σ H v) : Val (tCB (rLenQ K) (tCons ta tNil)) σ H (.int (n : Int)) := by
  obtain ⟨p, vs, rfl, s, q⟩ := r
  exact fun Q k => ha _ ⟨p, vs, rfl, .inr s, by rw [l q]; exact k⟩
/-! ### unpacking -/
theorem g_names {Q : L2.St → Hp → Prop} {σ1 : L2.St} (e : σ1 = σ') (k : Q σ' H) : Q σ1 H := e ▸ k
theorem g_tup2 {β : Type} {τ1 : Ty α} {τ2 : Ty β} {d : α × β} {i1 i2 : Nat} {Q : L2.St → Hp → Prop} (r : (yTup (sCons τ1 (sOne τ2))).rep K H [] v d)
    (k : ∀ u1 u2, τ1.rep K H [] u1 d.1 → τ2.rep K H [] u2 d.2 → Q ((σ.set i1 (some u1)).set i2 (some u2)) H) : gTup K 2 (gCons (gName i1) (gCons (gName i2) gNil)) v σ H Q := by
  obtain ⟨a, vs, rfl, s, v1, ws, F1, F2, rfl, e, r1, v2, rfl, r2⟩ := r
  obtain ⟨rfl, rfl⟩ : F1 = [] ∧ F2 = [] := List.append_eq_nil_iff.mp e.symm
  exact ⟨a, _, rfl, s, rfl, v1, _, rfl, v2, _, rfl, rfl, k v1 v2 r1 r2⟩
theorem g_tup3 {β γ : Type} {τ1 : Ty α} {τ2 : Ty β} {τ3 : Ty γ} {d : α × β × γ} {i1 i2 i3 : Nat} {Q : L2.St → Hp → Prop} (r : (yTup (sCons τ1 (sCons τ2 (sOne τ3)))).rep K H [] v d)
    (k : ∀ u1 u2 u3, τ1.rep K H [] u1 d.1 → τ2.rep K H [] u2 d.2.1 → τ3.rep K H [] u3 d.2.2 → Q (((σ.set i1 (some u1)).set i2 (some u2)).set i3 (some u3)) H) : gTup K 3 (gCons (gName i1) (gCons (gName i2) (gCons (gName i3) gNil))) v σ H Q := by
  obtain ⟨a, vs, rfl, s, v1, ws, F1, F2, rfl, e, r1, v2, ws2, F3, F4, rfl, e2, r2, v3, rfl, r3⟩ := r
  obtain ⟨rfl, rfl⟩ : F1 = [] ∧ F2 = [] := List.append_eq_nil_iff.mp e.symm
  obtain ⟨rfl, rfl⟩ : F3 = [] ∧ F4 = [] := List.append_eq_nil_iff.mp e2.symm
  exact ⟨a, _, rfl, s, rfl, v1, _, rfl, v2, _, rfl, v3, _, rfl, rfl, k v1 v2 v3 r1 r2 r3⟩
theorem g_tup4 {β γ δ : Type} {τ1 : Ty α} {τ2 : Ty β} {τ3 : Ty γ} {τ4 : Ty δ} {d : α × β × γ × δ} {i1 i2 i3 i4 : Nat} {Q : L2.St → Hp → Prop} (r : (yTup (sCons τ1 (sCons τ2 (sCons τ3 (sOne τ4))))).rep K H [] v d)
    (k : ∀ u1 u2 u3 u4, τ1.rep K H [] u1 d.1 → τ2.rep K H [] u2 d.2.1 → τ3.rep K H [] u3 d.2.2.1 → τ4.rep K H [] u4 d.2.2.2 → Q ((((σ.set i1 (some u1)).set i2 (some u2)).set i3 (some u3)).set i4 (some u4)) H) : gTup K 4 (gCons (gName i1) (gCons (gName i2) (gCons (gName i3) (gCons (gName i4) gNil)))) v σ H Q := by
  obtain ⟨a, vs, rfl, s, v1, ws, F1, F2, rfl, e, r1, v2, ws2, F3, F4, rfl, e2, r2, v3, ws3, F5, F6, rfl, e3, r3, v4, rfl, r4⟩ := r
  obtain ⟨rfl, rfl⟩ : F1 = [] ∧ F2 = [] := List.append_eq_nil_iff.mp e.symm
  obtain ⟨rfl, rfl⟩ : F3 = [] ∧ F4 = [] := List.append_eq_nil_iff.mp e2.symm
  obtain ⟨rfl, rfl⟩ : F5 = [] ∧ F6 = [] := List.append_eq_nil_iff.mp e3.symm
  exact ⟨a, _, rfl, s, rfl, v1, _, rfl, v2, _, rfl, v3, _, rfl, v4, _, rfl, rfl, k v1 v2 v3 v4 r1 r2 r3 r4⟩
/-! ### range(lo, hi, -1) -/
theorem w_iRng3 {ts : TA} {R : It → Hp → Prop} (h : ts σ H fun vs H1 => ∃ (i j c : Int) (n : Nat), vs = [.int i, .int j, .int c] ∧ RgC i j c n ∧ R (Itc i c n) H1) : iRng3 ts σ H R := h
theorem l_rngD {g : TG} {tb : TS} {nx : L2.St → Hp → Prop} {lo hi : Int} {xs : List Int} (hg : Mi.rngDownO lo hi = some xs) (Pv : Nat → L2.St → Hp → Prop) (h0 : Pv 0 σ H)
    (hs : ∀ (i : Nat) (x : Int) σ' H', xs[i]? = some x → Pv i σ' H' → g (.int x) σ' H' fun σ2 H2 => tb { D with nx := Pv (i + 1), ct := Pv (i + 1), bk := nx } σ2 H2) (hd : ∀ σ' H', Pv xs.length σ' H' → nx σ' H') :
    ∃ (i j c : Int) (n : Nat), [V.int lo, V.int hi, V.int (-1)] = [.int i, .int j, .int c] ∧ RgC i j c n ∧ LoopG (Itc i c n) g tb D nx σ H := by
  unfold Mi.rngDownO at hg
  split at hg
  · rename_i hc
    obtain rfl := Option.some.inj hg
    have hl : (Mi.rngDown lo hi).length = (lo - hi).toNat := by unfold Mi.rngDown; rw [List.length_map, List.length_range]
    refine ⟨lo, hi, -1, (lo - hi).toNat, rfl, RgC.neg (by omega) (by omega) (by omega) (by omega), ?_⟩
    refine for_rangeC (D := { D with nx := nx }) (lo := lo) (c := -1) (n := (lo - hi).toNat) Pv h0 (fun i σ' H' hi' p => hs i _ σ' H' ?_ p) (fun σ' H' p => hd σ' H' (by rw [hl]; exact p))
    unfold Mi.rngDown
    rw [List.getElem?_map, List.getElem?_range hi']
    show some (lo - (i : Int)) = some (lo + (i : Int) * -1)
    congr 1
    omega
  · cases hg
end
end G
namespace G
open PySem PySem.Spec PyProof.Rows L2
/-- the def at one address is one def -/
theorem fn_law {P : Program} {w : World} {K : PySem.W.Frag} {mg : Str → Option Value} {x : Str} {k : Nat} {sp : Sp} {fa : Addr} (hfa : mg x = some (.ref fa)) {p : Str} (c : Cal P w K mg x [p] k sp) :
    ∃ fd : FuncData, (∀ (s : Shared) (v : Value), BindsTo s fd ⟨[v], []⟩ [(p, v)]) ∧ ∀ base : Heap, K.In base → base.Ns mainGlobals mg → FnOk P w K mg base CX0 k fa fd [p] sp := by
  obtain ⟨f, fd, g, _, b, ok⟩ := c.ex
  obtain rfl : fa = f := Value.ref.inj (Option.some.inj (hfa.symm.trans g))
  exact ⟨fd, fun s v => b s [v] rfl, fun base _ _ => ok base⟩
end G

namespace G
open PySem PySem.Spec PyProof.Rows L2
section
variable {K : PySem.W.Frag} {σ σ' : L2.St} {H : Hp} {F F1 F2 : List Addr} {ta tb te : TE} {v u x y w : V} {i j : Int} {t tu tt : TT} {b c a : Bool} {α β : Type} {τ : Ty α} {υ : Ty β} {Q : VK} {D : Ends} {t1 t2 : TS} {g : TG} {ws : List Nat}
/-! ### list comprehensions -/
/-- y goes to the list at D, then N -/
def AppG (D : Addr) (N : Hp → Prop) (y : V) (H : Hp) : Prop := ∃ acc, H D = some (.lst acc) ∧ acc.length < sizeLine ∧ N (upd H D (.lst (acc ++ [y])))
/-- one turn: the new list at D grows or not, then N -/
def TurnG (g : TG) (tt : TT) (te : TE) (ws : List Nat) (σ : L2.St) (D : Addr) (N : Hp → Prop) (x : V) (H : Hp) : Prop :=
  g x (wipe σ ws) H fun σ2 H2 => wipe σ2 ws = wipe σ ws ∧ tt σ2 H2 fun b H3 => if b = true then te σ2 H3 (AppG D N) else N H3
def CompG (J : It) (g : TG) (tt : TT) (te : TE) (ws : List Nat) (σ : L2.St) (H : Hp) (Q : VK) : Prop := ∀ D, H D = none → ∃ W : Nat → Nat → Hp → Prop, (∃ m, W 0 m (upd H D (.lst []))) ∧ ∀ i m H, W i m H →
  (J.stop i H ∧ Q (.ref D) H) ∨ (J.go i H ∧ ∃ N : Hp → Prop, (∀ H', N H' → ∃ m', m' < m ∧ W (i + 1) m' H') ∧ ∀ x H', J.yld i H x H' → TurnG g tt te ws σ D N x H')
theorem w_lc {wi : TI} (h : wi σ H fun J H1 => CompG J g tt te ws σ H1 Q) : tLc wi g tt te ws σ H Q := h
theorem w_yes {Q : Bool → Hp → Prop} (h : Q true H) : tYes σ H Q := h
theorem empty_lst {p : Addr} (np : H p = none) : (yLst τ).rep K (upd H p (.lst [])) [p] (.ref p) [] := ⟨p, [], rfl, rfl, upd_same, .nil⟩
theorem comp_by {J : It} (n : Nat) (Pv : Addr → Nat → Hp → Prop) (h0 : ∀ D H', H D = none → Chg [] H H' → (yLst τ).rep K H' [D] (.ref D) [] → Pv D 0 H')
    (hs : ∀ D i H', i < n → Pv D i H' → J.go i H' ∧ ∀ x H2, J.yld i H' x H2 → TurnG g tt te ws σ D (Pv D (i + 1)) x H2) (hd : ∀ D H', H D = none → Pv D n H' → J.stop n H' ∧ Q (.ref D) H') : CompG J g tt te ws σ H Q := by
  intro D hD
  refine ⟨fun i m H' => m = n - i ∧ i ≤ n ∧ Pv D i H', ⟨n, by omega, Nat.zero_le _, h0 D _ hD (Chg.new hD) (empty_lst hD)⟩, ?_⟩
  rintro i m H' ⟨rfl, hi, p⟩
  by_cases hlt : i < n
  · obtain ⟨h1, h2⟩ := hs D i H' hlt p
    exact .inr ⟨h1, Pv D (i + 1), fun H2 p' => ⟨n - (i + 1), by omega, rfl, hlt, p'⟩, h2⟩
  · obtain rfl : i = n := by omega
    exact .inl (hd D H' hD p)
theorem kc_lst {xs : List β} (r : (yLst υ).rep K H F v xs) (Pv : Addr → Nat → Hp → Prop) (h0 : ∀ D H', H D = none → Chg [] H H' → (yLst τ).rep K H' [D] (.ref D) [] → Pv D 0 H') (hl : ∀ D i H', Pv D i H' → (yLst υ).rep K H' F v xs)
    (hs : ∀ D (i : Nat) (x : β) (u : V) H', xs[i]? = some x → υ.rep K H' [] u x → Pv D i H' → TurnG g tt te ws σ D (Pv D (i + 1)) u H') (hd : ∀ D H', H D = none → Pv D xs.length H' → Q (.ref D) H') :
    ∃ a, v = .ref a ∧ (∃ xs, SqL K H a xs) ∧ CompG (Itl K a) g tt te ws σ H Q := by
  obtain ⟨a, vs, e, s, q⟩ := lst_sq r
  refine ⟨a, e, ⟨vs, s⟩, comp_by (K := K) (τ := τ) xs.length Pv h0 (fun D i H' hi p => ?_) (fun D H' hD p => ?_)⟩
  · obtain ⟨a', vs', e', s', q'⟩ := lst_sq (hl D i H' p)
    obtain rfl : a = a' := by rw [e] at e'; exact V.ref.inj e'
    obtain ⟨u, hu, ru⟩ := pr_get q' (List.getElem?_eq_getElem hi)
    refine ⟨⟨vs', u, s', hu⟩, fun x H2 y => ?_⟩
    obtain ⟨rfl, y⟩ := y
    obtain rfl : x = u := Option.some.inj ((y _ s').symm.trans hu)
    exact hs D i _ _ _ (List.getElem?_eq_getElem hi) ru p
  · obtain ⟨a', vs', e', s', q'⟩ := lst_sq (hl D _ H' p)
    obtain rfl : a = a' := by rw [e] at e'; exact V.ref.inj e'
    exact ⟨⟨vs', s', by rw [pr_len q']; exact Nat.le_refl _⟩, hd D H' hD p⟩
theorem kc_tup {xs : List β} (r : (yTupL υ).rep K H F v xs) (Pv : Addr → Nat → Hp → Prop) (h0 : ∀ D H', H D = none → Chg [] H H' → (yLst τ).rep K H' [D] (.ref D) [] → Pv D 0 H') (hl : ∀ D i H', Pv D i H' → (yTupL υ).rep K H' F v xs)
    (hs : ∀ D (i : Nat) (x : β) (u : V) H', xs[i]? = some x → υ.rep K H' [] u x → Pv D i H' → TurnG g tt te ws σ D (Pv D (i + 1)) u H') (hd : ∀ D H', H D = none → Pv D xs.length H' → Q (.ref D) H') :
    ∃ a, v = .ref a ∧ (∃ xs, SqT K H a xs) ∧ CompG (Itt K a) g tt te ws σ H Q := by
  obtain ⟨a, vs, e, s, q⟩ := tupl_sq r
  refine ⟨a, e, ⟨vs, s⟩, comp_by (K := K) (τ := τ) xs.length Pv h0 (fun D i H' hi p => ?_) (fun D H' hD p => ?_)⟩
  · obtain ⟨a', vs', e', s', q'⟩ := tupl_sq (hl D i H' p)
    obtain rfl : a = a' := by rw [e] at e'; exact V.ref.inj e'
    obtain ⟨u, hu, ru⟩ := pr_get q' (List.getElem?_eq_getElem hi)
    refine ⟨⟨vs', u, s', hu⟩, fun x H2 y => ?_⟩
    obtain ⟨rfl, y⟩ := y
    obtain rfl : x = u := Option.some.inj ((y _ s').symm.trans hu)
    exact hs D i _ _ _ (List.getElem?_eq_getElem hi) ru p
  · obtain ⟨a', vs', e', s', q'⟩ := tupl_sq (hl D _ H' p)
    obtain rfl : a = a' := by rw [e] at e'; exact V.ref.inj e'
    exact ⟨⟨vs', s', by rw [pr_len q']; exact Nat.le_refl _⟩, hd D H' hD p⟩
theorem kc_rng {lo hi : Int} (Pv : Addr → Nat → Hp → Prop) (h0 : ∀ D H', H D = none → Chg [] H H' → (yLst τ).rep K H' [D] (.ref D) [] → Pv D 0 H')
    (hs : ∀ D (i : Nat) (x : Int) H', (Mi.rng lo hi)[i]? = some x → Pv D i H' → TurnG g tt te ws σ D (Pv D (i + 1)) (.int x) H') (hd : ∀ D H', H D = none → Pv D (Mi.rng lo hi).length H' → Q (.ref D) H') :
    CompG (Itr lo (hi - lo).toNat) g tt te ws σ H Q := by
  refine comp_by (K := K) (τ := τ) (hi - lo).toNat Pv h0 (fun D i H' hi' p => ⟨hi', fun x H2 y => ?_⟩) (fun D H' hD p => ⟨Nat.le_refl _, hd D H' hD (by rw [rng_len]; exact p)⟩)
  obtain ⟨rfl, rfl⟩ := y
  exact hs D i _ _ (rng_at hi') p
theorem kc_rng1 {hi : Int} {xs : List Int} (hg : Mi.rngO 0 hi = some xs) (Pv : Addr → Nat → Hp → Prop) (h0 : ∀ D H', H D = none → Chg [] H H' → (yLst τ).rep K H' [D] (.ref D) [] → Pv D 0 H')
    (hs : ∀ D (i : Nat) (x : Int) H', xs[i]? = some x → Pv D i H' → TurnG g tt te ws σ D (Pv D (i + 1)) (.int x) H') (hd : ∀ D H', H D = none → Pv D xs.length H' → Q (.ref D) H') :
    ∃ j : Int, [V.int hi] = [.int j] ∧ -(2 ^ 62) ≤ j ∧ j < 2 ^ 62 ∧ CompG (Itr 0 j.toNat) g tt te ws σ H Q := by
  obtain ⟨rfl, _, h1, h2⟩ := rngO_some hg
  refine ⟨hi, rfl, by omega, by omega, ?_⟩
  have e : hi.toNat = (hi - 0).toNat := by rw [Int.sub_zero]
  rw [e]
  exact kc_rng (K := K) (τ := τ) Pv h0 hs hd
theorem kc_rng2 {lo hi : Int} {xs : List Int} (hg : Mi.rngO lo hi = some xs) (Pv : Addr → Nat → Hp → Prop) (h0 : ∀ D H', H D = none → Chg [] H H' → (yLst τ).rep K H' [D] (.ref D) [] → Pv D 0 H')
    (hs : ∀ D (i : Nat) (x : Int) H', xs[i]? = some x → Pv D i H' → TurnG g tt te ws σ D (Pv D (i + 1)) (.int x) H') (hd : ∀ D H', H D = none → Pv D xs.length H' → Q (.ref D) H') :
    ∃ i j : Int, [V.int lo, V.int hi] = [.int i, .int j] ∧ (-(2 ^ 62) ≤ i ∧ i < 2 ^ 62 ∧ -(2 ^ 62) ≤ j ∧ j < 2 ^ 62) ∧ CompG (Itr i (j - i).toNat) g tt te ws σ H Q := by
  obtain ⟨rfl, h1, h2⟩ := rngO_some hg
  exact ⟨lo, hi, rfl, by omega, kc_rng (K := K) (τ := τ) Pv h0 hs hd⟩
/-- the item is put to the new list -/
theorem e_app {D : Addr} {N : Hp → Prop} {xs ys : List α} {d : α} (r : (yLst τ).rep K H [D] (.ref D) xs) (ru : τ.rep K H [] u d) (hm : Mi.app xs d = some ys) (k : ∀ H', Chg [D] H H' → (yLst τ).rep K H' [D] (.ref D) ys → N H') :
    AppG D N u H := by
  obtain ⟨p, vs, e, f, g, q⟩ := r
  obtain rfl : D = p := V.ref.inj e
  unfold Mi.app at hm
  split at hm
  · rename_i hz
    cases hm
    have c : Chg [D] H (upd H D (.lst (vs ++ [u]))) := Chg.wr g (fun z => z)
    exact ⟨vs, g, Nat.lt_of_lt_of_le (by rw [pr_len q]; exact hz) line_big, k _ c ⟨D, _, rfl, rfl, upd_same, pr_app (Paired.mapP q fun _ _ z => Ty.fz z c) (.cons (Ty.fz ru c) .nil)⟩⟩
  · cases hm
/-! ### + of lists, slices, list(..), tuple(..) -/
theorem w_cat {xs ys zs : List α} (r : (yLst τ).rep K H F1 v xs) (q : (yLst τ).rep K H F2 u ys) (hm : Mi.cat xs ys = some zs) (k : ∀ p H', H p = none → Chg [] H H' → (yLst τ).rep K H' [p] (.ref p) zs → Q (.ref p) H') : rCat v u H Q := by
  obtain ⟨p, vs, rfl, rfl, g, r1⟩ := r
  obtain ⟨p2, us, rfl, rfl, g2, r2⟩ := q
  unfold Mi.cat at hm
  split at hm
  · rename_i hz
    cases hm
    refine ⟨p, p2, vs, us, rfl, rfl, g, g2, sz (by rw [pr_len r1, pr_len r2]; exact hz), fun n nn => k n _ nn (Chg.new nn) ⟨n, _, rfl, rfl, upd_same, ?_⟩⟩
    exact Paired.mapP (pr_app r1 r2) fun _ _ z => Ty.ex z (Chg.new nn)
  · cases hm
theorem w_sl {r : V → Option Int → Option Int → Hp → VK → Prop} {tl th : TO} (h : te σ H fun x H1 => tl σ H1 fun l H2 => th σ H2 fun u H3 => r x l u H3 Q) : tSl r te tl th σ H Q := h
theorem w_pon {Q : Option Int → Hp → Prop} (h : Q none H) : tNoPart σ H Q := h
theorem w_pos {Q : Option Int → Hp → Prop} (h : te σ H fun x H1 => ∃ i, x = .int i ∧ Q (some i) H1) : tPart te σ H Q := h
theorem sl_l {X : Cx} {K : PySem.W.Frag} (e : X.K = K := by rfl) : SlR X (rSlL K) := by subst e; exact sl_list
theorem cut_eq {α : Type} (xs : List α) (lo hi : Option Int) : (xs.drop (HT.sIx xs.length 0 lo)).take (HT.sIx xs.length xs.length hi - HT.sIx xs.length 0 lo) = Mi.cut xs lo hi := by
  have e : ∀ n d o, HT.sIx n d o = Mi.sIx n d o := fun n d o => by cases o <;> rfl
  unfold Mi.cut
  rw [e, e]
theorem pr_cut {R : V → α → Prop} {vs : List V} {xs : List α} (r : Paired R vs xs) (lo hi : Option Int) : Paired R (cutV vs lo hi) (Mi.cut xs lo hi) := by
  rw [← cut_eq]
  unfold cutV
  rw [pr_len r]
  exact pr_take _ (pr_drop _ r)
theorem w_cutL {xs : List α} {lo hi : Option Int} (r : (yLst τ).rep K H F v xs) (k : ∀ p H', H p = none → Chg [] H H' → (yLst τ).rep K H' [p] (.ref p) (Mi.cut xs lo hi) → Q (.ref p) H') : rSlL K v lo hi H Q := by
  obtain ⟨p, vs, rfl, s, q⟩ := lst_sq r
  refine ⟨p, vs, rfl, s, fun n nn => k n _ nn (Chg.new nn) ⟨n, _, rfl, rfl, upd_same, ?_⟩⟩
  exact Paired.mapP (pr_cut q lo hi) fun _ _ z => Ty.ex z (Chg.new nn)
def rListQ (K : PySem.W.Frag) : List V → Hp → VK → Prop := fun xs H Q => ∃ p ys, xs = [.ref p] ∧ (SqL K H p ys ∨ SqT K H p ys) ∧ ∀ l, H l = none → Q (.ref l) (upd H l (.lst ys))
def rTupleQ (K : PySem.W.Frag) : List V → Hp → VK → Prop := fun xs H Q => ∃ p ys, xs = [.ref p] ∧ ((SqL K H p ys ∧ ∀ l, H l = none → Q (.ref l) (upd H l (.tup ys))) ∨ (SqT K H p ys ∧ Q (.ref p) H))
theorem cl_list {X : Cx} {K : PySem.W.Frag} (e : X.K = K := by rfl) : CallR X (.type "list") (rListQ K) := by subst e; exact call_list_of
theorem cl_tuple {X : Cx} {K : PySem.W.Frag} (e : X.K = K := by rfl) : CallR X (.type "tuple") (rTupleQ K) := by subst e; exact call_tuple_of
theorem w_listL {xs : List α} (r : (yLst τ).rep K H F v xs) (k : ∀ p H', H p = none → Chg [] H H' → (yLst τ).rep K H' [p] (.ref p) xs → Q (.ref p) H') : rListQ K [v] H Q := by
  obtain ⟨p, vs, rfl, s, q⟩ := lst_sq r
  exact ⟨p, vs, rfl, .inl s, fun n nn => k n _ nn (Chg.new nn) ⟨n, _, rfl, rfl, upd_same, Paired.mapP q fun _ _ z => Ty.ex z (Chg.new nn)⟩⟩
theorem w_listT {xs : List α} (r : (yTupL τ).rep K H F v xs) (k : ∀ p H', H p = none → Chg [] H H' → (yLst τ).rep K H' [p] (.ref p) xs → Q (.ref p) H') : rListQ K [v] H Q := by
  obtain ⟨p, vs, rfl, s, q⟩ := tupl_sq r
  exact ⟨p, vs, rfl, .inr s, fun n nn => k n _ nn (Chg.new nn) ⟨n, _, rfl, rfl, upd_same, Paired.mapP q fun _ _ z => Ty.ex z (Chg.new nn)⟩⟩
theorem w_tupleL {xs : List α} (r : (yLst τ).rep K H F v xs) (k : ∀ v H', Chg [] H H' → (yTupL τ).rep K H' [] v xs → Q v H') : rTupleQ K [v] H Q := by
  obtain ⟨p, vs, rfl, s, q⟩ := lst_sq r
  exact ⟨p, vs, rfl, .inl ⟨s, fun n nn => k _ _ (Chg.new nn) ⟨n, _, rfl, rfl, .inl (.inl upd_same), Paired.mapP q fun _ _ z => Ty.ex z (Chg.new nn)⟩⟩⟩
theorem w_tupleT {xs : List α} (r : (yTupL τ).rep K H F v xs) (k : ∀ v H', Chg [] H H' → (yTupL τ).rep K H' [] v xs → Q v H') : rTupleQ K [v] H Q := by
  obtain ⟨p, vs, rfl, s, q⟩ := tupl_sq r
  exact ⟨p, vs, rfl, .inr ⟨s, k _ _ (Chg.refl H) ⟨p, vs, rfl, rfl, s, q⟩⟩⟩
/-! ### in -/
theorem op_in_q {X : Cx} {K : PySem.W.Frag} (e : X.K = K := by rfl) : OpR X (compareOp .In) (rIn K false) := by subst e; exact op_in_seq
theorem op_ni_q {X : Cx} {K : PySem.W.Frag} (e : X.K = K := by rfl) : OpR X (compareOp .NotIn) (rIn K true) := by subst e; exact op_notIn_seq
theorem flat_ints (ns : List Int) : (ns.map V.int).all flatV = true := by
  rw [List.all_eq_true]
  intro x hx
  obtain ⟨n, _, rfl⟩ := List.mem_map.mp hx
  rfl
theorem in_ints (n : Int) : ∀ ns : List Int, inV (.int n) (ns.map V.int) = ns.contains n
  | [] => rfl
  | m :: ns => by
    have ih := in_ints n ns
    unfold inV at ih ⊢
    rw [List.map_cons, List.any_cons, List.contains_cons, ih]
    congr 1
    show (m == n) = (n == m)
    by_cases h : m = n
    · subst h; rfl
    · rw [beq_eq_false_iff_ne.mpr h, beq_eq_false_iff_ne.mpr (Ne.symm h)]
theorem ints_sqL {xs : List Int} (r : (yLst yInt).rep K H F v xs) : ∃ a, v = .ref a ∧ SqL K H a (xs.map V.int) := by
  obtain ⟨a, vs, e, s, q⟩ := lst_sq r
  rw [ints_of q] at s
  exact ⟨a, e, s⟩
theorem ints_sqT {xs : List Int} (r : (yTupL yInt).rep K H F v xs) : ∃ a, v = .ref a ∧ SqT K H a (xs.map V.int) := by
  obtain ⟨a, vs, e, s, q⟩ := tupl_sq r
  rw [ints_of q] at s
  exact ⟨a, e, s⟩
theorem w_inL {xs : List Int} (r : (yLst yInt).rep K H F v xs) (k : Q (.bl (xs.contains i)) H) : rIn K false (.int i) v H Q := by
  obtain ⟨a, rfl, s⟩ := ints_sqL r
  exact ⟨a, _, rfl, .inl s, rfl, flat_ints xs, by rw [if_neg Bool.false_ne_true, in_ints]; exact k⟩
theorem w_niL {xs : List Int} (r : (yLst yInt).rep K H F v xs) (k : Q (.bl (!xs.contains i)) H) : rIn K true (.int i) v H Q := by
  obtain ⟨a, rfl, s⟩ := ints_sqL r
  exact ⟨a, _, rfl, .inl s, rfl, flat_ints xs, by rw [if_pos rfl, in_ints]; exact k⟩
theorem w_inT {xs : List Int} (r : (yTupL yInt).rep K H F v xs) (k : Q (.bl (xs.contains i)) H) : rIn K false (.int i) v H Q := by
  obtain ⟨a, rfl, s⟩ := ints_sqT r
  exact ⟨a, _, rfl, .inr s, rfl, flat_ints xs, by rw [if_neg Bool.false_ne_true, in_ints]; exact k⟩
theorem w_niT {xs : List Int} (r : (yTupL yInt).rep K H F v xs) (k : Q (.bl (!xs.contains i)) H) : rIn K true (.int i) v H Q := by
  obtain ⟨a, rfl, s⟩ := ints_sqT r
  exact ⟨a, _, rfl, .inr s, rfl, flat_ints xs, by rw [if_pos rfl, in_ints]; exact k⟩
theorem val_inL {xs : List Int} (r : (yLst yInt).rep K H F v xs) (ha : Val ta σ H (.int i)) (hb : Val tb σ H v) : Val (tOp (rIn K false) ta tb) σ H (.bl (xs.contains i)) := val_op ha hb fun Q q => w_inL r q
theorem val_niL {xs : List Int} (r : (yLst yInt).rep K H F v xs) (ha : Val ta σ H (.int i)) (hb : Val tb σ H v) : Val (tOp (rIn K true) ta tb) σ H (.bl (!xs.contains i)) := val_op ha hb fun Q q => w_niL r q
theorem val_inT {xs : List Int} (r : (yTupL yInt).rep K H F v xs) (ha : Val ta σ H (.int i)) (hb : Val tb σ H v) : Val (tOp (rIn K false) ta tb) σ H (.bl (xs.contains i)) := val_op ha hb fun Q q => w_inT r q
theorem val_niT {xs : List Int} (r : (yTupL yInt).rep K H F v xs) (ha : Val ta σ H (.int i)) (hb : Val tb σ H v) : Val (tOp (rIn K true) ta tb) σ H (.bl (!xs.contains i)) := val_op ha hb fun Q q => w_niT r q
end
end G

namespace G
open PySem PySem.Spec PyProof.Rows L2
/-! ### instances -/
theorem lookup_zip {f : Str} : ∀ {ns : List Str} {vs : List V} {n : Nat} {u : V}, ns.Nodup → ns[n]? = some f → vs[n]? = some u → (ns.zip vs).lookup f = some u
  | [], _, _, _, _, h, _ => by simp at h
  | _ :: _, [], _, _, _, _, h => by simp at h
  | m :: ns, w :: vs, 0, u, nd, h, h2 => by
    obtain rfl : m = f := by simpa using h
    obtain rfl : w = u := by simpa using h2
    simp [List.lookup]
  | m :: ns, w :: vs, n + 1, u, nd, h, h2 => by
    have hne : (f == m) = false := by
      rw [beq_eq_false_iff_ne]
      intro e
      subst e
      have h3 : ns[n]? = some f := by simpa using h
      exact (List.nodup_cons.mp nd).1 (List.mem_of_getElem? h3)
    rw [List.zip_cons_cons]
    simp only [List.lookup, hne]
    exact lookup_zip (List.nodup_cons.mp nd).2 (by simpa using h) (by simpa using h2)
def yObj {α : Type} (C : Addr) (ns : List Str) (ts : Tys α) : Ty α where
  rep K H F v d := F = [] ∧ ∃ a dx vs, v = .ref a ∧ H a = some (.ins C dx (ns.zip vs)) ∧ done (ns.zip vs) = true ∧ ts.rep K H [] vs d
  keep {K H H' F v d} h k := by
    obtain ⟨e, a, dx, vs, e2, g, f, r⟩ := h
    exact ⟨e, a, dx, vs, e2, k a _ g (.inr f), f, ts.keep r fun b o hb z => k b o hb (z.elim (fun y => nomatch y) .inr)⟩
  dom {K H F v d} h b m := by rw [h.1] at m; cases m
/-- an instance that its __init__ has begun: the attributes ns hold the values ws -/
def yPart (C dx : Addr) (ns : List Str) : Ty (List V) where
  rep K H F v ws := ∃ x, v = .ref x ∧ F = [x] ∧ H x = some (.ins C dx (ns.zip ws)) ∧ done (ns.zip ws) = false
  keep {K H H' F v ws} h k := by
    obtain ⟨x, e, rfl, g, f⟩ := h
    exact ⟨x, e, rfl, k x _ g (.inl (List.mem_singleton.mpr rfl)), f⟩
  dom {K H F v ws} h b m := by
    obtain ⟨x, e, rfl, g, f⟩ := h
    rw [List.mem_singleton] at m; subst m
    exact ⟨_, g, fun z => by have z' : done _ = true := z; rw [f] at z'; cases z'⟩
section
variable {K : PySem.W.Frag} {σ σ' : L2.St} {H : Hp} {F : List Addr} {ta tb te tv : TE} {v u x y w : V} {α β : Type} {τ : Ty α} {Q : VK} {D : Ends} {t1 t2 : TS} {C dx p : Addr} {ns : List Str} {f : Str}
theorem fz_obj {ts : Tys α} : Fz (yObj C ns ts) := fun h => h.1
theorem nn_obj {ts : Tys α} {d : α} (r : (yObj C ns ts).rep K H F v d) : v ≠ .non := by obtain ⟨_, a, _, _, rfl, _⟩ := r; exact fun z => nomatch z
/-- o.f: what is asked of the value o -/
def FldG (K : PySem.W.Frag) (f : Str) (x : V) (H : Hp) (Q : VK) : Prop := ∃ a C dx fs v, x = .ref a ∧ H a = some (.ins C dx fs) ∧ Cls K C ∧ NoAttr K C f ∧ fs.lookup f = some v ∧ Q v H
theorem w_fld (h : ta σ H fun x H1 => FldG K f x H1 Q) : tFld K ta f σ H Q := h
theorem fld_obj {ts : Tys α} {n : Nat} {υ : Ty β} {pr : α → β} {d : α} (A : At ts n υ pr) (nd : ns.Nodup) (hn : ns[n]? = some f) (c : Cls K C) (na : NoAttr K C f) (r : (yObj C ns ts).rep K H F v d) :
    ∃ u, υ.rep K H [] u (pr d) ∧ (∀ {Q : VK}, Q u H → FldG K f v H Q) ∧ ∀ {σ : L2.St} {ta : TE}, Val ta σ H v → Val (tFld K ta f) σ H u := by
  obtain ⟨_, a, dx, vs, rfl, g, _, rs⟩ := r
  obtain ⟨u, F1, e, ru, sub⟩ := A rs
  have e1 : F1 = [] := by
    cases F1 with
    | nil => rfl
    | cons z zs => exact nomatch sub z (List.mem_cons_self ..)
  subst e1
  have k : ∀ {Q : VK}, Q u H → FldG K f (.ref a) H Q := fun q => ⟨a, C, dx, _, u, rfl, g, c, na, lookup_zip nd hn e, q⟩
  exact ⟨u, ru, k, fun ha Q q => ha _ (k q)⟩
theorem fld_part {ws : List V} {n : Nat} (nd : ns.Nodup) (hn : ns[n]? = some f) (hw : ws[n]? = some u) (c : Cls K C) (na : NoAttr K C f) (r : (yPart C dx ns).rep K H F v ws) (ha : Val ta σ H v) : Val (tFld K ta f) σ H u := by
  obtain ⟨a, rfl, _, g, _⟩ := r
  exact fun Q q => ha _ ⟨a, C, dx, _, u, rfl, g, c, na, lookup_zip nd hn hw, q⟩
/-- self.f = e -/
def SFldG (K : PySem.W.Frag) (f : Str) (y x : V) (H : Hp) (X : Hp → Prop) : Prop := ∃ a C dx fs, x = .ref a ∧ H a = some (.ins C dx fs) ∧ Cls K C ∧ NoAttr K C f ∧ fs.length < 1000 ∧ X (upd H a (.ins C dx (putF f y fs)))
theorem q_fld (h : tv σ H fun y H1 => ta σ H1 fun x H2 => SFldG K f y x H2 (t2 D σ)) : tSeq (sFld K ta tv f) t2 D σ H := h
theorem putF_zip {f : Str} {y : V} : ∀ {ns : List Str} {ws : List V}, f ∉ ns → ns.length = ws.length → putF f y (ns.zip ws) = (ns ++ [f]).zip (ws ++ [y])
  | [], [], _, _ => rfl
  | [], _ :: _, _, h => by simp at h
  | _ :: _, [], _, h => by simp at h
  | m :: ns, w :: ws, hf, h => by
    have hne : f ≠ m := fun e => hf (by rw [e]; exact List.mem_cons_self ..)
    have ih := putF_zip (f := f) (y := y) (ns := ns) (ws := ws) (fun z => hf (List.mem_cons_of_mem _ z)) (by simpa using h)
    rw [List.zip_cons_cons]
    show putF f y ((m, w) :: ns.zip ws) = _
    unfold putF
    split
    · rename_i e
      exact absurd (by simpa using e) (by first | exact hne | exact (Ne.symm hne))
    · rw [ih]; rfl
theorem m_fldP {ws : List V} {X : Hp → Prop} (r : (yPart C dx ns).rep K H F v ws) (c : Cls K C) (na : NoAttr K C f) (hf : f ∉ ns) (hl : ns.length = ws.length) (hs : ns.length < 900) (hd : done ((ns ++ [f]).zip (ws ++ [y])) = false)
    (k : ∀ H', Chg F H H' → (yPart C dx (ns ++ [f])).rep K H' F v (ws ++ [y]) → X H') : SFldG K f y v H X := by
  obtain ⟨a, rfl, rfl, g, nf⟩ := r
  have cc : Chg [a] H (upd H a (.ins C dx (putF f y (ns.zip ws)))) := Chg.wr g (fun z => by have z' : done _ = true := z; rw [nf] at z'; cases z')
  refine ⟨a, C, dx, _, rfl, g, c, na, by rw [List.length_zip, ← hl]; omega, k _ cc ⟨a, rfl, rfl, ?_, hd⟩⟩
  rw [upd_same, putF_zip hf hl]
theorem m_fldE {ws : List V} {X : Hp → Prop} {ts : Tys α} {d : α} (r : (yPart C dx ns).rep K H F v ws) (c : Cls K C) (na : NoAttr K C f) (hf : f ∉ ns) (hl : ns.length = ws.length) (hs : ns.length < 900) (hd : done ((ns ++ [f]).zip (ws ++ [y])) = true)
    (rs : ts.rep K H [] (ws ++ [y]) d) (k : ∀ H', Chg F H H' → (yObj C (ns ++ [f]) ts).rep K H' [] v d → X H') : SFldG K f y v H X := by
  obtain ⟨a, rfl, rfl, g, nf⟩ := r
  have cc : Chg [a] H (upd H a (.ins C dx (putF f y (ns.zip ws)))) := Chg.wr g (fun z => by have z' : done _ = true := z; rw [nf] at z'; cases z')
  refine ⟨a, C, dx, _, rfl, g, c, na, by rw [List.length_zip, ← hl]; omega, k _ cc ⟨rfl, a, dx, _, rfl, ?_, hd, ts.keep rs fun b o hb z => cc.keep b o hb (z.elim (fun y => nomatch y) .inr)⟩⟩
  rw [upd_same, putF_zip hf hl]
/-- C(..): the new instance -/
def MakeG (C : Addr) (sp : Sp) (E : XK) (vs : V → List V) (H : Hp) (Q : VK) : Prop := ∀ x dx, H x = none → H dx = none → dx ≠ x → sp (vs (.ref x)) (upd (upd H dx (.own x)) x (.ins C dx [])) (fun v H3 => v = .non ∧ Q (.ref x) H3) E
theorem make_new {x : Addr} (nx : H x = none) (nd : H dx = none) (ne : dx ≠ x) : Chg [] H (upd (upd H dx (.own x)) x (.ins C dx [])) ∧ (yPart C dx []).rep K (upd (upd H dx (.own x)) x (.ins C dx [])) [x] (.ref x) [] :=
  ⟨(Chg.new nd).trans (Chg.new (by rw [upd_ne (Ne.symm ne)]; exact nx)), x, rfl, rfl, upd_same, rfl⟩
theorem tInt_tup {d : Int} : True := trivial
end
end G
namespace G
open PySem PySem.Spec PyProof.Rows L2
/-- what the top leaves of a class -/
structure Tx (K : PySem.W.Frag) (mg : Str → Option Value) (C : Addr) (x : Str) (ns : List Str) : Prop where
  cls : Cls K C
  mgC : mg x = some (.ref C)
  na : ∀ f ∈ ns, NoAttr K C f
structure CalM (P : Program) (w : World) (K : PySem.W.Frag) (mg : Str → Option Value) (C : Addr) (m : Str) (ps : List Str) (k : Nat) (sp : Sp) : Prop where
  ex : ∃ f fd, Meth K C m f ∧ (∀ (s : Shared) (us : List Value), us.length = ps.length → BindsTo s fd ⟨us, []⟩ (ps.zip us)) ∧ ∀ base : Heap, FnOk P w K mg base CX0 k f fd ps sp
structure CalI (P : Program) (w : World) (K : PySem.W.Frag) (mg : Str → Option Value) (C : Addr) (qual : Str) (st : Stmt) (kws : List (Str × V)) (ps : List Str) (k : Nat) (sp : Sp) : Prop where
  ex : ∃ f fd, Mk K C f ∧ FunD K "__init__" qual (defArgs st) (defBody st) (defScope st) [] kws f fd ∧ ∀ base : Heap, FnOk P w K mg base CX0 k f fd ps sp
structure DfnM (K : PySem.W.Frag) (C : Addr) (m qual : Str) (st : Stmt) : Prop where
  ex : ∃ f fd, Fun K m qual st f fd ∧ Meth K C m f
structure DfnI (K : PySem.W.Frag) (C : Addr) (qual : Str) (st : Stmt) (kws : List (Str × V)) : Prop where
  ex : ∃ f fd, FunD K "__init__" qual (defArgs st) (defBody st) (defScope st) [] kws f fd ∧ Mk K C f
section
variable {X : Cx} {K : PySem.W.Frag} {σ : L2.St} {H : Hp} {F : List Addr} {ta te : TE} {v : V} {α : Type} {Q : VK} {C : Addr} {ns : List Str} {m : Str}
def MethG (C : Addr) (m : Str) (x : V) (H : Hp) (R : Prop) : Prop := ∃ a dx fs, x = .ref a ∧ H a = some (.ins C dx fs) ∧ fs.lookup m = none ∧ R
theorem w_meth {sp : Sp} {E : XK} {ts : TA} (h : ta σ H fun x H1 => MethG C m x H1 (ts σ H1 fun vs H2 => sp (x :: (vs ++ [])) H2 Q E)) : tMeth C m sp [] E ta ts σ H Q := h
theorem lookup_none {f : Str} : ∀ {ns : List Str} {vs : List V}, f ∉ ns → (ns.zip vs).lookup f = none
  | [], _, _ => rfl
  | _ :: _, [], _ => rfl
  | m :: ns, w :: vs, h => by
    have hne : (f == m) = false := by
      rw [beq_eq_false_iff_ne]
      exact fun e => h (by rw [e]; exact List.mem_cons_self ..)
    rw [List.zip_cons_cons]
    simp only [List.lookup, hne]
    exact lookup_none fun z => h (List.mem_cons_of_mem _ z)
theorem meth_obj {ts : Tys α} {d : α} {R : Prop} (r : (yObj C ns ts).rep K H F v d) (hm : m ∉ ns) (k : R) : MethG C m v H R := by
  obtain ⟨_, a, dx, vs, rfl, g, _, _⟩ := r
  exact ⟨a, dx, _, rfl, g, lookup_none hm, k⟩
theorem w_makeK {n k : Nat} {sp : Sp} {gV : List V → List V → List V} {E : XK} {t tk : TA} (h : t σ H fun vs H1 => tk σ H1 fun zs H2 => vs.length = n ∧ zs.length = k ∧ MakeG C sp E (fun x => gV (x :: vs) zs) H2 Q) : tMakeK C n k sp gV E t tk σ H Q := h
theorem w_mk {sp : Sp} {E : XK} {t : TA} {dvs : List V} (h : t σ H fun vs H1 => MakeG C sp E (fun x => x :: (vs ++ dvs)) H1 Q) : tMake C sp dvs E t σ H Q := h
theorem pe_cm {ps : List Str} {j k : Nat} {sp : Sp} {pl : Sem Bool} {apos pos : Pos} {o e : Expr} {es : List Expr} {t : TA} (he : PE X o ta) (c : Cls X.K C) (M : CalM X.prog X.w X.K X.mg C m ps j sp) (hr : Room k X.A) (ha : PA X (e :: es) t) (hj : j ≤ k := by decide)
    (h1 : ∀ {f : Addr} {fd : FuncData}, FnOk X.prog X.w X.K X.mg X.base CX0 j f fd ps sp → Meth X.K C m f → Binds X.K fd ps [] → Room j X.A → PE X (.Call (.Attribute o m apos) (e :: es) [] pos) (tMeth C m sp [] E0 ta t)) : PE X (.Call (.Attribute o m apos) (e :: es) [] pos) (tMeth C m sp [] E0 ta t) := by
  obtain ⟨f, fd, hm, b, F⟩ := M.ex
  exact h1 (F X.base) hm (fun s us _ hl => by rw [List.append_nil] at hl ⊢; exact b s us hl) (hr.mono hj)
end
end G

namespace G
open PySem PySem.Spec PyProof.Rows L2
section
variable {K : PySem.W.Frag} {σ σ' : L2.St} {H : Hp} {F F1 F2 Fu : List Addr} {ta tb te : TE} {v u x y : V} {i j : Int} {t tu tt : TT} {b c a : Bool} {α β : Type} {τ : Ty α} {υ : Ty β} {Q : VK} {D : Ends} {t1 t2 : TS} {g : TG} {ws : List Nat}
/-! ### shifts -/
theorem shlC {i j r : Int} (h : Mi.shl i j = some r) : CPow i j ∧ i * 2 ^ j.toNat = r := by
  unfold Mi.shl at h
  split at h
  · rename_i hc
    exact ⟨⟨hc.1, by omega, by omega⟩, Option.some.inj h⟩
  · cases h
theorem shrC {i j r : Int} (h : Mi.shr i j = some r) : 0 ≤ j ∧ i / 2 ^ j.toNat = r := by
  unfold Mi.shr at h
  split at h
  · exact ⟨by assumption, Option.some.inj h⟩
  · cases h
theorem val_shlO {r : Int} (ha : Val ta σ H (.int i)) (hb : Val tb σ H (.int j)) (h : Mi.shl i j = some r) : Val (tOp (rI CPow fun i j => .int (i * 2 ^ j.toNat)) ta tb) σ H (.int r) := val_is (val_I (g := fun i j => .int (i * 2 ^ j.toNat)) ha hb (shlC h).1) (by rw [← (shlC h).2])
theorem val_shrO {r : Int} (ha : Val ta σ H (.int i)) (hb : Val tb σ H (.int j)) (h : Mi.shr i j = some r) : Val (tOp (rI (fun _ j => 0 ≤ j) fun i j => .int (i / 2 ^ j.toNat)) ta tb) σ H (.int r) := val_is (val_I (g := fun i j => .int (i / 2 ^ j.toNat)) ha hb (shrC h).1) (by rw [← (shrC h).2])
theorem w_shl {r : Int} (h : Mi.shl i j = some r) (k : Q (.int r) H) : rI CPow (fun i j => .int (i * 2 ^ j.toNat)) (.int i) (.int j) H Q := ⟨i, j, rfl, rfl, (shlC h).1, by show Q (.int (i * 2 ^ j.toNat)) H; rw [(shlC h).2]; exact k⟩
theorem w_shr {r : Int} (h : Mi.shr i j = some r) (k : Q (.int r) H) : rI (fun _ j => 0 ≤ j) (fun i j => .int (i / 2 ^ j.toNat)) (.int i) (.int j) H Q := ⟨i, j, rfl, rfl, (shrC h).1, by show Q (.int (i / 2 ^ j.toNat)) H; rw [(shrC h).2]; exact k⟩
/-! ### sorted -/
theorem cl_sortedL {X : Cx} {K : PySem.W.Frag} (e : X.K = K := by rfl) : CallR X (.builtin "sorted") (rSortedI K) := by subst e; exact cr_sortedI
theorem sortI_perm (xs : List Int) : (Mi.sortI xs).Perm xs := List.mergeSort_perm _ _
theorem sortI_sorted (xs : List Int) : (Mi.sortI xs).Pairwise (· ≤ ·) := by
  have h := List.pairwise_mergeSort (le := fun a b : Int => decide (a ≤ b)) (fun a b c h1 h2 => by simp at *; omega) (fun a b => by simp; omega) xs
  exact List.Pairwise.imp (fun h => by simpa using h) h
theorem sorted_unique : ∀ {xs ys : List Int}, xs.Perm ys → xs.Pairwise (· ≤ ·) → ys.Pairwise (· ≤ ·) → xs = ys
  | [], ys, p, _, _ => (List.Perm.nil_eq p)
  | x :: xs, [], p, _, _ => absurd p.length_eq (by simp)
  | x :: xs, y :: ys, p, h1, h2 => by
    have hx := List.pairwise_cons.mp h1
    have hy := List.pairwise_cons.mp h2
    have e : x = y := by
      have a1 : y ∈ x :: xs := p.mem_iff.mpr (List.mem_cons_self ..)
      have a2 : x ∈ y :: ys := p.mem_iff.mp (List.mem_cons_self ..)
      rcases List.mem_cons.mp a1 with r | r
      · exact r.symm
      · rcases List.mem_cons.mp a2 with q | q
        · exact q
        · have := hx.1 y r
          have := hy.1 x q
          omega
    subst e
    rw [sorted_unique (List.Perm.cons_inv p) hx.2 hy.2]
theorem w_sortedL {xs : List Int} (r : (yLst yInt).rep K H F v xs) (k : ∀ p H', H p = none → Chg [] H H' → (yLst yInt).rep K H' [p] (.ref p) (Mi.sortI xs) → Q (.ref p) H') : rSortedI K [v] H Q := by
  obtain ⟨p, rfl, s⟩ := ints_sqL r
  refine ⟨p, xs, rfl, s, fun ns q pm so nq => ?_⟩
  rw [sorted_unique (pm.trans (sortI_perm xs).symm) so (sortI_sorted xs)]
  exact k q _ nq (Chg.new nq) ⟨q, _, rfl, rfl, upd_same, ints_mk _⟩
/-! ### sets of ints -/
def ySet (w : World) : Ty (List Int) where
  rep K H F v xs := ∃ a, v = .ref a ∧ F = [a] ∧ H a = some (SetO w a (fun i => xs.contains i) xs.length)
  keep {K H H' F v xs} h k := by
    obtain ⟨a, e, rfl, g⟩ := h
    exact ⟨a, e, rfl, k a _ g (.inl (List.mem_singleton.mpr rfl))⟩
  dom {K H F v xs} h b m := by
    obtain ⟨a, e, rfl, g⟩ := h
    rw [List.mem_singleton] at m; subst m
    exact ⟨_, g, fun z => z⟩
theorem cl_set0 {X : Cx} {w : World} (e : X.w = w := by rfl) : CallR X (.type "set") (rSet0 w) := by subst e; exact cr_set0
theorem w_set0 {w : World} (k : ∀ p H', H p = none → Chg [] H H' → (ySet w).rep K H' [p] (.ref p) [] → Q (.ref p) H') : rSet0 w [] H Q := ⟨rfl, fun p np => k p _ np (Chg.new np) ⟨p, rfl, rfl, upd_same⟩⟩
theorem op_in_s {X : Cx} {w : World} (e : X.w = w := by rfl) : OpR X (compareOp .In) (rSIn w) := by subst e; exact or_sin
theorem op_ni_s {X : Cx} {w : World} (e : X.w = w := by rfl) : OpR X (compareOp .NotIn) (rSNotIn w) := by subst e; exact or_snotin
theorem w_inS {w : World} {xs : List Int} (r : (ySet w).rep K H F v xs) (k : Q (.bl (xs.contains i)) H) : rSIn w (.int i) v H Q := by
  obtain ⟨p, rfl, rfl, g⟩ := r
  exact ⟨i, p, _, _, rfl, rfl, g, k⟩
theorem w_niS {w : World} {xs : List Int} (r : (ySet w).rep K H F v xs) (k : Q (.bl (!xs.contains i)) H) : rSNotIn w (.int i) v H Q := by
  obtain ⟨p, rfl, rfl, g⟩ := r
  exact ⟨i, p, _, _, rfl, rfl, g, k⟩
theorem val_inS {w : World} {xs : List Int} (r : (ySet w).rep K H F v xs) (ha : Val ta σ H (.int i)) (hb : Val tb σ H v) : Val (tOp (rSIn w) ta tb) σ H (.bl (xs.contains i)) := val_op ha hb fun Q q => w_inS r q
theorem val_niS {w : World} {xs : List Int} (r : (ySet w).rep K H F v xs) (ha : Val ta σ H (.int i)) (hb : Val tb σ H v) : Val (tOp (rSNotIn w) ta tb) σ H (.bl (!xs.contains i)) := val_op ha hb fun Q q => w_niS r q
theorem w_sadd {w : World} {to : TE} {ts : TA} (h : to σ H fun x H1 => (∃ a S n, x = V.ref a ∧ H1 a = some (SetO w a S n)) ∧ ts σ H1 fun xs H2 => rSAdd w x xs H2 Q) : tSAdd w to ts σ H Q := h
theorem tyv_set {w : World} {xs : List Int} (r : (ySet w).rep K H F v xs) : ∃ a S n, v = V.ref a ∧ H a = some (SetO w a S n) := by
  obtain ⟨p, rfl, rfl, g⟩ := r
  exact ⟨p, _, _, rfl, g⟩
theorem m_sadd {w : World} {xs ys : List Int} (r : (ySet w).rep K H F v xs) (hm : Mi.sadd xs i = some ys) (k : ∀ H', Chg F H H' → (ySet w).rep K H' F v ys → Q .non H') : rSAdd w v [.int i] H Q := by
  obtain ⟨p, rfl, rfl, g⟩ := r
  unfold Mi.sadd at hm
  split at hm
  · rename_i hz
    obtain rfl := Option.some.inj hm
    refine ⟨p, i, _, _, rfl, rfl, g, by show xs.length + 1 < 4096; omega, ?_⟩
    refine k _ (Chg.wr g (fun z => z)) ⟨p, rfl, rfl, ?_⟩
    rw [upd_same]
    congr 1
    by_cases hc : xs.contains i = true
    · have e1 : (fun j => xs.contains j || decide (j = i)) = fun j => xs.contains j := by
        funext j
        by_cases hj : j = i
        · subst hj; rw [hc]; rfl
        · rw [decide_eq_false hj, Bool.or_false]
      rw [if_pos hc, if_pos hc]
      show SetO w p (fun j => xs.contains j || decide (j = i)) _ = _
      rw [e1]
    · rw [if_neg hc, if_neg hc]
      have e1 : (fun j => xs.contains j || decide (j = i)) = fun j => (xs ++ [i]).contains j := by
        funext j
        rw [List.contains_eq_mem, List.contains_eq_mem]
        by_cases hj : j = i
        · subst hj; simp
        · simp [hj]
      show SetO w p (fun j => xs.contains j || decide (j = i)) _ = _
      rw [e1, List.length_append]
      rfl
  · cases hm
/-! ### lists by their methods -/
theorem m_clear {xs : List α} (r : (yLst τ).rep K H F v xs) (k : ∀ H', Chg F H H' → (yLst τ).rep K H' F v [] → Q .non H') : rClear v [] H Q := by
  obtain ⟨p, vs, rfl, rfl, g, q⟩ := r
  exact ⟨p, vs, rfl, rfl, g, k _ (Chg.wr g (fun z => z)) ⟨p, [], rfl, rfl, upd_same, .nil⟩⟩
theorem pr_rev {R : V → α → Prop} : ∀ {vs : List V} {xs : List α}, Paired R vs xs → Paired R vs.reverse xs.reverse
  | _, _, .nil => .nil
  | _, _, .cons r t => by
    rw [List.reverse_cons, List.reverse_cons]
    exact pr_app (pr_rev t) (.cons r .nil)
theorem m_reverse {xs : List α} (r : (yLst τ).rep K H F v xs) (k : ∀ H', Chg F H H' → (yLst τ).rep K H' F v xs.reverse → Q .non H') : rReverse v [] H Q := by
  obtain ⟨p, vs, rfl, rfl, g, q⟩ := r
  have c : Chg [p] H (upd H p (.lst vs.reverse)) := Chg.wr g (fun z => z)
  exact ⟨p, vs, rfl, rfl, g, k _ c ⟨p, _, rfl, rfl, upd_same, Paired.mapP (pr_rev q) fun _ _ z => Ty.fz z c⟩⟩
theorem pr_dropLast {R : V → α → Prop} {vs : List V} {xs : List α} (r : Paired R vs xs) : Paired R vs.dropLast xs.dropLast := by
  rw [List.dropLast_eq_take, List.dropLast_eq_take, pr_len r]
  exact pr_take _ r
theorem pr_erase {R : V → α → Prop} {vs : List V} {xs : List α} (r : Paired R vs xs) (n : Nat) : Paired R (vs.eraseIdx n) (xs.eraseIdx n) := by
  rw [List.eraseIdx_eq_take_drop_succ, List.eraseIdx_eq_take_drop_succ]
  exact pr_app (pr_take _ r) (pr_drop _ r)
theorem m_pop {xs : List α} {p : α × List α} (r : (yLst τ).rep K H F v xs) (hm : Mi.popL xs = some p) (k : ∀ u H', Chg F H H' → τ.rep K H' [] u p.1 → (yLst τ).rep K H' F v p.2 → Q u H') : rPop v [] H Q := by
  obtain ⟨l, vs, rfl, rfl, g, q⟩ := r
  unfold Mi.popL at hm
  obtain ⟨y, hy, hm⟩ := Mi.bnd hm
  obtain rfl := Option.some.inj hm
  obtain ⟨u, hu, ru⟩ := pr_get q hy
  have c : Chg [l] H (upd H l (.lst vs.dropLast)) := Chg.wr g (fun z => z)
  exact ⟨l, vs, u, rfl, rfl, g, by rw [pr_len q]; exact hu, k u _ c (Ty.fz ru c) ⟨l, _, rfl, rfl, upd_same, Paired.mapP (pr_dropLast q) fun _ _ z => Ty.fz z c⟩⟩
theorem m_popAt {xs : List α} {p : α × List α} (r : (yLst τ).rep K H F v xs) (hm : Mi.popAt xs i = some p) (hb : xs.length ≤ Mi.big) (k : ∀ u H', Chg F H H' → τ.rep K H' [] u p.1 → (yLst τ).rep K H' F v p.2 → Q u H') : rPopAt v [.int i] H Q := by
  obtain ⟨l, vs, rfl, rfl, g, q⟩ := r
  unfold Mi.popAt at hm
  obtain ⟨j, hj, hm⟩ := Mi.bnd hm
  obtain ⟨y, hy, hm⟩ := Mi.bnd hm
  obtain rfl := Option.some.inj hm
  obtain ⟨u, hu, ru⟩ := pr_get q hy
  have c : Chg [l] H (upd H l (.lst (vs.eraseIdx j))) := Chg.wr g (fun z => z)
  obtain ⟨h1, h2, h3, h4⟩ := ixN_seq (show L2.ixN vs.length i = some j by rw [pr_len q]; exact hj)
  have hb2 : vs.length ≤ 1000000 := by rw [pr_len q]; exact hb
  exact ⟨l, vs, i, j, u, rfl, rfl, g, by omega, by omega, h1, hu, k u _ c (Ty.fz ru c) ⟨l, _, rfl, rfl, upd_same, Paired.mapP (pr_erase q j) fun _ _ z => Ty.fz z c⟩⟩
end
end G

namespace G
open PySem PySem.Spec PyProof.Rows L2
/-! ### a list whose items may hold lists -/
def Sub (F G : List Addr) : Prop := ∀ b ∈ F, b ∈ G
def yLsg {α : Type} (τ : Ty α) : Ty (List α) where
  rep K H F v xs := ∃ a vs G, v = .ref a ∧ F = a :: G ∧ a ∉ G ∧ H a = some (.lst vs) ∧ (∀ b ∈ G, ∃ o, H b = some o ∧ ¬ Froz o) ∧ Paired (fun u x => ∃ Fi, τ.rep K H Fi u x ∧ Sub Fi G) vs xs
  keep {K H H' F v xs} h k := by
    obtain ⟨a, vs, G, e, rfl, na, g, dm, r⟩ := h
    refine ⟨a, vs, G, e, rfl, na, k a _ g (.inl (List.mem_cons_self ..)), fun b hb => ?_, Paired.mapP r fun u x q => ?_⟩
    · obtain ⟨o, ho, hf⟩ := dm b hb
      exact ⟨o, k b o ho (.inl (List.mem_cons_of_mem _ hb)), hf⟩
    · obtain ⟨Fi, ru, sb⟩ := q
      exact ⟨Fi, τ.keep ru fun b o hb z => k b o hb (z.imp (fun y => List.mem_cons_of_mem _ (sb b y)) id), sb⟩
  dom {K H F v xs} h b m := by
    obtain ⟨a, vs, G, e, rfl, na, g, dm, r⟩ := h
    rcases List.mem_cons.mp m with rfl | m
    · exact ⟨_, g, fun z => z⟩
    · exact dm b m
section
variable {K : PySem.W.Frag} {σ σ' : L2.St} {H : Hp} {F F1 F2 Fu : List Addr} {ta tb te : TE} {v u x y : V} {i j : Int} {t tu tt : TT} {b c a : Bool} {α β : Type} {τ : Ty α} {υ : Ty β} {Q : VK} {D : Ends} {t1 t2 : TS} {g : TG} {ws : List Nat}
theorem lsg_sq {xs : List α} (r : (yLsg τ).rep K H F v xs) : ∃ a vs, v = .ref a ∧ a ∈ F ∧ SqL K H a vs ∧ Paired (fun u x => ∃ Fi, τ.rep K H Fi u x ∧ Sub Fi F ∧ a ∉ Fi) vs xs := by
  obtain ⟨a, vs, G, e, rfl, na, g, dm, q⟩ := r
  exact ⟨a, vs, e, List.mem_cons_self .., .inl (.inl g), Paired.mapP q fun u x z => by
    obtain ⟨Fi, ru, sb⟩ := z
    exact ⟨Fi, ru, fun b hb => List.mem_cons_of_mem _ (sb b hb), fun hb => na (sb a hb)⟩⟩
theorem nn_lsg {xs : List α} (r : (yLsg τ).rep K H F v xs) : v ≠ .non := by obtain ⟨a, vs, G, rfl, _⟩ := r; exact fun z => nomatch z
theorem ty_lsg {xs : List α} (r : (yLsg τ).rep K H F v xs) : TyX K H v (.type "list") := by
  obtain ⟨a, vs, G, rfl, _, _, g, _⟩ := r
  exact .base (.lst g)
theorem tyv_lsg {xs : List α} (r : (yLsg τ).rep K H F v xs) : tyV K "list" v H := by
  obtain ⟨a, vs, rfl, _, s, q⟩ := lsg_sq r
  exact .inl ⟨rfl, _, s⟩
theorem val_lenG {xs : List α} (r : (yLsg τ).rep K H F v xs) (ha : Val ta σ H v) : Val (tCB (rLenQ K) (tCons ta tNil)) σ H (.int (xs.length : Int)) := by
  obtain ⟨a, vs, e, _, s, q⟩ := lsg_sq r
  subst e
  exact fun Q k => ha _ ⟨a, vs, rfl, .inl s, by rw [pr_len q]; exact k⟩
theorem w_lenG {xs : List α} (r : (yLsg τ).rep K H F v xs) (k : Q (.int (xs.length : Int)) H) : rLenQ K [v] H Q := by
  obtain ⟨a, vs, e, _, s, q⟩ := lsg_sq r
  subst e
  exact ⟨a, vs, rfl, .inl s, by rw [pr_len q]; exact k⟩
/-- the item's own value -/
theorem itm_G {xs : List α} {x : α} (r : (yLsg τ).rep K H F v xs) (h : Mi.at_ xs i = some x) :
    ∃ u Fi, τ.rep K H Fi u x ∧ Sub Fi F ∧ (∀ p, v = .ref p → p ∉ Fi) ∧ (∀ {Q : VK}, Q u H → rIxL K v (.int i) H Q) ∧ ∀ {σ : L2.St} {ta tb : TE}, Val ta σ H v → Val tb σ H (.int i) → Val (tOp (rIxL K) ta tb) σ H u := by
  obtain ⟨a, vs, e, _, s, q⟩ := lsg_sq r
  subst e
  obtain ⟨u, e, Fi, ru, sb, na⟩ := pr_at q h
  have k : ∀ {Q : VK}, Q u H → rIxL K (.ref a) (.int i) H Q := fun k => ⟨a, vs, i, u, rfl, rfl, s, e, k⟩
  exact ⟨u, Fi, ru, sb, fun p hp => by obtain rfl := V.ref.inj hp; exact na, k, fun ha hb => val_op ha hb fun Q q => k q⟩
/-- a new list of such items -/
theorem e_lsg {vs : List V} {xs : List α} {G : List Addr} (z : vs.length ≤ Mi.big) (dm : ∀ b ∈ G, ∃ o, H b = some o ∧ ¬ Froz o) (r : Paired (fun u x => ∃ Fi, τ.rep K H Fi u x ∧ Sub Fi G) vs xs)
    (k : ∀ p H', H p = none → Chg [] H H' → (yLsg τ).rep K H' (p :: G) (.ref p) xs → Q (.ref p) H') : LstG vs H Q := by
  refine ⟨sz z, fun p np => k p _ np (Chg.new np) ⟨p, vs, G, rfl, rfl, fun hp => ?_, upd_same, fun b hb => ?_, Paired.mapP r fun u x q => ?_⟩⟩
  · obtain ⟨o, ho, _⟩ := dm p hp
    rw [np] at ho; cases ho
  · obtain ⟨o, ho, hf⟩ := dm b hb
    exact ⟨o, by rw [upd_ne (ne_of_none ho np)]; exact ho, hf⟩
  · obtain ⟨Fi, ru, sb⟩ := q
    exact ⟨Fi, Ty.ex ru (Chg.new np), sb⟩
theorem Ty.dm {d : α} (r : τ.rep K H F v d) : ∀ b ∈ F, ∃ o, H b = some o ∧ ¬ Froz o := τ.dom r
theorem dm_nil : ∀ b ∈ ([] : List Addr), ∃ o, H b = some o ∧ ¬ Froz o := fun b h => nomatch h
theorem dm_app (d1 : ∀ b ∈ F1, ∃ o, H b = some o ∧ ¬ Froz o) (d2 : ∀ b ∈ F2, ∃ o, H b = some o ∧ ¬ Froz o) : ∀ b ∈ F1 ++ F2, ∃ o, H b = some o ∧ ¬ Froz o := fun b h => (List.mem_append.mp h).elim (d1 b) (d2 b)
/-- xs.append(e) -/
theorem m_appG {xs ys : List α} {d : α} (r : (yLsg τ).rep K H F v xs) (ru : τ.rep K H Fu u d) (ap : ∀ p, v = .ref p → p ∉ Fu) (hm : Mi.app xs d = some ys)
    (k : ∀ H' F', Chg F H H' → (yLsg τ).rep K H' F' v ys → Sub F F' → Sub F' (F ++ Fu) → Q .non H') : rAppend v [u] H Q := by
  obtain ⟨p, vs, G, rfl, rfl, na, g, dm, q⟩ := r
  have np : p ∉ Fu := ap p rfl
  unfold Mi.app at hm
  split at hm
  · rename_i hz
    cases hm
    have c : Chg [p] H (upd H p (.lst (vs ++ [u]))) := Chg.wr g (fun z => z)
    have kp : ∀ {γ : Type} {ρ : Ty γ} {Fi : List Addr} {w : V} {e : γ}, ρ.rep K H Fi w e → p ∉ Fi → ρ.rep K (upd H p (.lst (vs ++ [u]))) Fi w e := fun rr hn => Ty.chg rr c fun b hb z => by
      rw [List.mem_singleton] at z; subst z; exact hn hb
    refine ⟨p, vs, u, rfl, rfl, g, Nat.lt_of_lt_of_le (by rw [pr_len q]; exact hz) line_big, k _ (p :: (G ++ Fu)) (c.mono fun b hb => by rw [List.mem_singleton] at hb; subst hb; exact List.mem_cons_self ..) ⟨p, _, G ++ Fu, rfl, rfl, ?_, upd_same, ?_, ?_⟩ ?_ ?_⟩
    · intro hp
      exact (List.mem_append.mp hp).elim na np
    · intro b hb
      have hbp : b ≠ p := fun e => by subst e; exact (List.mem_append.mp hb).elim na np
      obtain ⟨o, ho, hf⟩ := dm_app dm (Ty.dm ru) b hb
      exact ⟨o, by rw [upd_ne hbp]; exact ho, hf⟩
    · refine pr_app (Paired.mapP q fun w e z => ?_) (.cons ⟨Fu, kp ru np, fun b hb => List.mem_append_right _ hb⟩ .nil)
      obtain ⟨Fi, rr, sb⟩ := z
      exact ⟨Fi, kp rr fun hp => na (sb p hp), fun b hb => List.mem_append_left _ (sb b hb)⟩
    · intro b hb
      rcases List.mem_cons.mp hb with rfl | hb
      · exact List.mem_cons_self ..
      · exact List.mem_cons_of_mem _ (List.mem_append_left _ hb)
    · intro b hb
      rcases List.mem_cons.mp hb with rfl | hb
      · exact List.mem_append_left _ (List.mem_cons_self ..)
      · rcases List.mem_append.mp hb with hb | hb
        · exact List.mem_append_left _ (List.mem_cons_of_mem _ hb)
        · exact List.mem_append_right _ hb
  · cases hm
theorem Dj.ap {p : Addr} (d : Dj F Fu) (hp : p ∈ F) : p ∉ Fu := d p hp
theorem ap_of {xs : List α} (r : (yLsg τ).rep K H F v xs) (d : Dj F Fu) : ∀ p, v = .ref p → p ∉ Fu := fun p e => by
  obtain ⟨a, vs, G, e2, rfl, _⟩ := r
  rw [e] at e2
  obtain rfl := V.ref.inj e2
  exact d p (List.mem_cons_self ..)
theorem Dj.grow {G' : List Addr} (d : Dj F1 F) (d2 : Dj F1 Fu) (s : Sub G' (F ++ Fu)) : Dj F1 G' := fun b hb z => (List.mem_append.mp (s b z)).elim (d b hb) (d2 b hb)
theorem fresh_grow {H0 : Hp} {G' : List Addr} (n1 : ∀ a ∈ F, H0 a = none) (n2 : ∀ a ∈ Fu, H0 a = none) (s : Sub G' (F ++ Fu)) : ∀ a ∈ G', H0 a = none := fun b hb => (List.mem_append.mp (s b hb)).elim (n1 b) (n2 b)
theorem fresh_cons {H0 : Hp} {p : Addr} (n1 : H0 p = none) (n2 : ∀ a ∈ F, H0 a = none) : ∀ a ∈ p :: F, H0 a = none := fun b hb => by
  rcases List.mem_cons.mp hb with rfl | hb
  · exact n1
  · exact n2 b hb
theorem Dj.consR {p : Addr} (d1 : Dj F [p]) (d2 : Dj F F2) : Dj F (p :: F2) := fun b hb z => by
  rcases List.mem_cons.mp z with rfl | z
  · exact d1 b hb (List.mem_singleton.mpr rfl)
  · exact d2 b hb z
theorem Dj.subR {G' : List Addr} (d : Dj F G') (s : Sub F1 G') : Dj F F1 := fun b hb z => d b hb (s b z)
/-- a loop over it -/
theorem l_lsg {g : TG} {tb : TS} {nx : L2.St → Hp → Prop} {xs : List α} (r : (yLsg τ).rep K H F v xs) (Pv : Nat → L2.St → Hp → Prop) (h0 : Pv 0 σ H) (hl : ∀ i σ' H', Pv i σ' H' → (yLsg τ).rep K H' F v xs)
    (hs : ∀ (i : Nat) (x : α) (u : V) (Fi : List Addr) σ' H', xs[i]? = some x → τ.rep K H' Fi u x → Sub Fi F → Pv i σ' H' → g u σ' H' fun σ2 H2 => tb { D with nx := Pv (i + 1), ct := Pv (i + 1), bk := nx } σ2 H2) (hd : ∀ σ' H', Pv xs.length σ' H' → nx σ' H') :
    ∃ a, v = .ref a ∧ (∃ xs, SqL K H a xs) ∧ LoopG (Itl K a) g tb D nx σ H := by
  obtain ⟨a, vs, e, _, s, q⟩ := lsg_sq r
  refine ⟨a, e, ⟨vs, s⟩, fun i m σ' H' => m = xs.length - i ∧ i ≤ xs.length ∧ Pv i σ' H', ⟨xs.length, by omega, Nat.zero_le _, h0⟩, ?_⟩
  rintro i m σ' H' ⟨rfl, hi, p⟩
  obtain ⟨a', vs', e', _, s', q'⟩ := lsg_sq (hl i σ' H' p)
  obtain rfl : a = a' := by rw [e] at e'; exact V.ref.inj e'
  by_cases hlt : i < xs.length
  · obtain ⟨u, hu, Fi, ru, sb, _⟩ := pr_get q' (List.getElem?_eq_getElem hlt)
    refine .inr ⟨⟨vs', u, s', hu⟩, Pv (i + 1), fun σ2 H2 p' => ⟨xs.length - (i + 1), by omega, rfl, hlt, p'⟩, fun x H2 y => ?_⟩
    obtain ⟨rfl, y⟩ := y
    obtain rfl : x = u := Option.some.inj ((y _ s').symm.trans hu)
    exact hs i _ _ Fi σ' _ (List.getElem?_eq_getElem hlt) ru sb p
  · obtain rfl : i = xs.length := by omega
    exact .inl ⟨⟨vs', s', by rw [pr_len q']; exact Nat.le_refl _⟩, hd σ' H' p⟩
theorem kc_lsg {xs : List β} (r : (yLsg υ).rep K H F v xs) (Pv : Addr → Nat → Hp → Prop) (h0 : ∀ D H', H D = none → Chg [] H H' → (yLst τ).rep K H' [D] (.ref D) [] → Pv D 0 H') (hl : ∀ D i H', Pv D i H' → (yLsg υ).rep K H' F v xs)
    (hs : ∀ D (i : Nat) (x : β) (u : V) (Fi : List Addr) H', xs[i]? = some x → υ.rep K H' Fi u x → Sub Fi F → Pv D i H' → TurnG g tt te ws σ D (Pv D (i + 1)) u H') (hd : ∀ D H', H D = none → Pv D xs.length H' → Q (.ref D) H') :
    ∃ a, v = .ref a ∧ (∃ xs, SqL K H a xs) ∧ CompG (Itl K a) g tt te ws σ H Q := by
  obtain ⟨a, vs, e, _, s, q⟩ := lsg_sq r
  refine ⟨a, e, ⟨vs, s⟩, comp_by (K := K) (τ := τ) xs.length Pv h0 (fun D i H' hi p => ?_) (fun D H' hD p => ?_)⟩
  · obtain ⟨a', vs', e', _, s', q'⟩ := lsg_sq (hl D i H' p)
    obtain rfl : a = a' := by rw [e] at e'; exact V.ref.inj e'
    obtain ⟨u, hu, Fi, ru, sb, _⟩ := pr_get q' (List.getElem?_eq_getElem hi)
    refine ⟨⟨vs', u, s', hu⟩, fun x H2 y => ?_⟩
    obtain ⟨rfl, y⟩ := y
    obtain rfl : x = u := Option.some.inj ((y _ s').symm.trans hu)
    exact hs D i _ _ Fi _ (List.getElem?_eq_getElem hi) ru sb p
  · obtain ⟨a', vs', e', _, s', q'⟩ := lsg_sq (hl D _ H' p)
    obtain rfl : a = a' := by rw [e] at e'; exact V.ref.inj e'
    exact ⟨⟨vs', s', by rw [pr_len q']; exact Nat.le_refl _⟩, hd D H' hD p⟩
theorem w_listG {xs : List α} (r : (yLsg τ).rep K H F v xs) (k : ∀ p H' F', H p = none → Chg [] H H' → (yLsg τ).rep K H' F' (.ref p) xs → Sub F' (p :: F) → Q (.ref p) H') : rListQ K [v] H Q := by
  obtain ⟨a, vs, G, rfl, rfl, na, g, dm, q⟩ := r
  refine ⟨a, vs, rfl, .inl (.inl (.inl g)), fun n nn => k n _ (n :: G) nn (Chg.new nn) ⟨n, vs, G, rfl, rfl, fun hp => ?_, upd_same, fun b hb => ?_, Paired.mapP q fun w e z => ?_⟩ fun b hb => ?_⟩
  · obtain ⟨o, ho, _⟩ := dm n hp
    rw [nn] at ho; cases ho
  · obtain ⟨o, ho, hf⟩ := dm b hb
    exact ⟨o, by rw [upd_ne (ne_of_none ho nn)]; exact ho, hf⟩
  · obtain ⟨Fi, rr, sb⟩ := z
    exact ⟨Fi, Ty.ex rr (Chg.new nn), sb⟩
  · rcases List.mem_cons.mp hb with rfl | hb
    · exact List.mem_cons_self ..
    · exact List.mem_cons_of_mem _ (List.mem_cons_of_mem _ hb)
end
/-! ### data compared as a whole -/
structure Dat {α : Type} (τ : Ty α) (n : Nat) where
  f : α → PyData
  dec : DecidableEq α
  dp : ∀ {K : PySem.W.Frag} {H : Hp} {F : List Addr} {v : V} {d : α}, τ.rep K H F v d → Dp K H v (f d)
  lay : ∀ d, (f d).canLay0 = true
  dpt : ∀ d, (f d).depth ≤ n
  eqv : ∀ d e, PyData.eqv (f d) (f e) = decide (d = e)
theorem beq_dec {α : Type} [DecidableEq α] [BEq α] [LawfulBEq α] (a b : α) : (a == b) = decide (a = b) := by
  by_cases h : a = b
  · subst h; simp
  · rw [decide_eq_false h]; simpa using h
def dat_int : Dat yInt 0 where
  f := .int
  dec := inferInstance
  dp := fun h => by obtain ⟨_, rfl⟩ := h; exact .int _
  lay := fun d => by simp [PyData.canLay0]
  dpt := fun d => by simp [PyData.depth]
  eqv := fun d e => by simp only [PyData.eqv]; exact beq_dec d e
def dat_bool : Dat yBool 0 where
  f := .bool
  dec := inferInstance
  dp := fun h => by obtain ⟨_, rfl⟩ := h; exact .bl _
  lay := fun d => by simp [PyData.canLay0]
  dpt := fun d => by simp [PyData.depth]
  eqv := fun d e => by simp only [PyData.eqv]; exact beq_dec d e
section
variable {α β : Type} {τ : Ty α} {n m : Nat}
theorem dpAll {K : PySem.W.Frag} {H : Hp} {R : V → α → Prop} {f : α → PyData} (h : ∀ u x, R u x → Dp K H u (f x)) : ∀ {vs : List V} {xs : List α}, Paired R vs xs → DpAll K H vs (xs.map f)
  | _, _, .nil => .nil
  | _, _, .cons r t => .cons (h _ _ r) (dpAll h t)
theorem layAll {f : α → PyData} (h : ∀ d, (f d).canLay0 = true) : ∀ xs : List α, PyData.canLayAll0 (xs.map f) = true
  | [] => by simp [PyData.canLayAll0]
  | x :: xs => by simp [PyData.canLayAll0, h x, layAll h xs]
theorem dptAll {f : α → PyData} (h : ∀ d, (f d).depth ≤ n) : ∀ xs : List α, PyData.depthAll (xs.map f) ≤ n
  | [] => by simp [PyData.depthAll]
  | x :: xs => by
    simp only [List.map_cons, PyData.depthAll]
    exact Nat.max_le.mpr ⟨h x, dptAll h xs⟩
theorem eqvAllL [DecidableEq α] {f : α → PyData} (h : ∀ d e, PyData.eqv (f d) (f e) = decide (d = e)) : ∀ xs ys : List α, PyData.eqvAll (xs.map f) (ys.map f) = decide (xs = ys)
  | [], [] => by simp [PyData.eqvAll]
  | [], y :: ys => by simp [PyData.eqvAll]
  | x :: xs, [] => by simp [PyData.eqvAll]
  | x :: xs, y :: ys => by
    simp only [List.map_cons, PyData.eqvAll, h x y, eqvAllL h xs ys]
    by_cases h1 : x = y
    · by_cases h2 : xs = ys
      · simp [h1, h2]
      · simp [h2]
    · simp [h1]
def dat_lst (d : Dat τ n) : Dat (yLst τ) (n + 1) where
  f := fun xs => .list (xs.map d.f)
  dec := @instDecidableEqList _ d.dec
  dp := fun h => by
    obtain ⟨a, vs, rfl, s, q⟩ := lst_sq h
    exact .lst s (dpAll (fun u x z => d.dp z) q)
  lay := fun xs => by simp only [PyData.canLay0]; exact layAll d.lay xs
  dpt := fun xs => by simp only [PyData.depth]; exact Nat.succ_le_succ (dptAll d.dpt xs)
  eqv := fun xs ys => by simp only [PyData.eqv]; exact @eqvAllL _ d.dec _ d.eqv xs ys
def dat_lsg (d : Dat τ n) : Dat (yLsg τ) (n + 1) where
  f := fun xs => .list (xs.map d.f)
  dec := @instDecidableEqList _ d.dec
  dp := fun h => by
    obtain ⟨a, vs, rfl, _, s, q⟩ := lsg_sq h
    exact .lst s (dpAll (fun u x z => by obtain ⟨Fi, ru, _⟩ := z; exact d.dp ru) q)
  lay := fun xs => by simp only [PyData.canLay0]; exact layAll d.lay xs
  dpt := fun xs => by simp only [PyData.depth]; exact Nat.succ_le_succ (dptAll d.dpt xs)
  eqv := fun xs ys => by simp only [PyData.eqv]; exact @eqvAllL _ d.dec _ d.eqv xs ys
def dat_tupl (d : Dat τ n) : Dat (yTupL τ) (n + 1) where
  f := fun xs => .tuple (xs.map d.f)
  dec := @instDecidableEqList _ d.dec
  dp := fun h => by
    obtain ⟨a, vs, rfl, s, q⟩ := tupl_sq h
    exact .tup s (dpAll (fun u x z => d.dp z) q)
  lay := fun xs => by simp only [PyData.canLay0]; exact layAll d.lay xs
  dpt := fun xs => by simp only [PyData.depth]; exact Nat.succ_le_succ (dptAll d.dpt xs)
  eqv := fun xs ys => by simp only [PyData.eqv]; exact @eqvAllL _ d.dec _ d.eqv xs ys
end
structure Sat {α : Type} (ts : Tys α) (n : Nat) where
  f : α → List PyData
  dec : DecidableEq α
  dp : ∀ {K : PySem.W.Frag} {H : Hp} {F : List Addr} {vs : List V} {d : α}, ts.rep K H F vs d → DpAll K H vs (f d)
  lay : ∀ d, PyData.canLayAll0 (f d) = true
  dpt : ∀ d, PyData.depthAll (f d) ≤ n
  eqv : ∀ d e, PyData.eqvAll (f d) (f e) = decide (d = e)
section
variable {α β : Type} {τ : Ty α} {ts : Tys β} {n m : Nat}
def sat_one (d : Dat τ n) : Sat (sOne τ) n where
  f := fun x => [d.f x]
  dec := d.dec
  dp := fun h => by obtain ⟨v, rfl, r⟩ := h; exact .cons (d.dp r) .nil
  lay := fun x => by simp [PyData.canLayAll0, d.lay x]
  dpt := fun x => by simp only [PyData.depthAll]; exact Nat.max_le.mpr ⟨d.dpt x, Nat.zero_le _⟩
  eqv := fun x y => by simp [PyData.eqvAll, d.eqv x y]
def sat_cons (d : Dat τ n) (s : Sat ts m) : Sat (sCons τ ts) (max n m) where
  f := fun x => d.f x.1 :: s.f x.2
  dec := @instDecidableEqProd _ _ d.dec s.dec
  dp := fun h => by obtain ⟨v, ws, F1, F2, rfl, _, r, q⟩ := h; exact .cons (d.dp r) (s.dp q)
  lay := fun x => by simp [PyData.canLayAll0, d.lay x.1, s.lay x.2]
  dpt := fun x => by
    simp only [PyData.depthAll]
    have h1 := d.dpt x.1
    have h2 := s.dpt x.2
    omega
  eqv := fun x y => by
    obtain ⟨x1, x2⟩ := x
    obtain ⟨y1, y2⟩ := y
    letI := d.dec
    letI := s.dec
    simp only [PyData.eqvAll, d.eqv x1 y1, s.eqv x2 y2]
    by_cases h1 : x1 = y1
    · by_cases h2 : x2 = y2
      · subst h1 h2; simp
      · have : ¬ ((x1, x2) = (y1, y2)) := fun e => h2 (Prod.mk.inj e).2
        simp only [h2, decide_false, Bool.and_false]
        exact (decide_eq_false this).symm
    · have : ¬ ((x1, x2) = (y1, y2)) := fun e => h1 (Prod.mk.inj e).1
      simp only [h1, decide_false, Bool.false_and]
      exact (decide_eq_false this).symm
def dat_tup (s : Sat ts m) : Dat (yTup ts) (m + 1) where
  f := fun x => .tuple (s.f x)
  dec := s.dec
  dp := fun h => by obtain ⟨a, vs, rfl, sq, q⟩ := h; exact .tup sq (s.dp q)
  lay := fun x => by simp only [PyData.canLay0]; exact s.lay x
  dpt := fun x => by simp only [PyData.depth]; exact Nat.succ_le_succ (s.dpt x)
  eqv := fun x y => by simp only [PyData.eqv]; exact s.eqv x y
end
section
variable {X : Cx} {K : PySem.W.Frag} {H : Hp} {F1 F2 : List Addr} {v u : V} {α : Type} {τ : Ty α} {Q : VK} {n : Nat} {x y : α}
theorem op_eq_d {K : PySem.W.Frag} (hu : X.A.units + 64 < cLine) (e : X.K = K := by rfl) : OpR X (compareOp .Eq) (rEqD K) := by subst e; exact op_eqD hu
theorem op_ne_d {K : PySem.W.Frag} (hu : X.A.units + 64 < cLine) (e : X.K = K := by rfl) : OpR X (compareOp .NotEq) (rNeD K) := by subst e; exact op_neD hu
theorem Dat.shaped (d : Dat τ n) (hn : n ≤ 64) (x : α) : SeqAt.shaped (d.f x) = true := by
  unfold SeqAt.shaped
  rw [d.lay x, decide_eq_true (Nat.le_trans (d.dpt x) hn)]
  rfl
theorem w_eqD [i : DecidableEq α] (d : Dat τ n) (r : τ.rep K H F1 v x) (q : τ.rep K H F2 u y) (k : Q (.bl (decide (x = y))) H) (hn : n ≤ 64 := by decide) : rEqD K v u H Q :=
  ⟨_, _, d.dp r, d.dp q, d.shaped hn x, d.shaped hn y, by
    have e : @decide (x = y) (d.dec x y) = @decide (x = y) (i x y) := by congr
    rw [d.eqv, e]; exact k⟩
theorem w_neD [i : DecidableEq α] (d : Dat τ n) (r : τ.rep K H F1 v x) (q : τ.rep K H F2 u y) (k : Q (.bl (!decide (x = y))) H) (hn : n ≤ 64 := by decide) : rNeD K v u H Q :=
  ⟨_, _, d.dp r, d.dp q, d.shaped hn x, d.shaped hn y, by
    have e : @decide (x = y) (d.dec x y) = @decide (x = y) (i x y) := by congr
    rw [d.eqv, e]; exact k⟩
end
end G
namespace G
open PySem PySem.Spec PyProof.Rows L2
section
variable {K : PySem.W.Frag} {σ σ' : L2.St} {H : Hp} {F F1 F2 Fu : List Addr} {ta tb te : TE} {v u x y : V} {i j : Int} {α β : Type} {τ : Ty α} {υ : Ty β} {Q : VK} {D : Ends} {t1 t2 : TS} {g : TG} {ws : List Nat}
theorem lsg_nil {p : Addr} {υ : Ty β} (r : (yLst υ).rep K H [p] (.ref p) []) : (yLsg τ).rep K H [p] (.ref p) [] := by
  obtain ⟨a, vs, e, f, g, q⟩ := r
  obtain rfl := V.ref.inj e
  cases q
  exact ⟨p, [], [], rfl, rfl, List.not_mem_nil, g, fun b h => absurd h List.not_mem_nil, Paired.nil⟩
theorem e_appG {D : Addr} {N : Hp → Prop} {xs ys : List α} {d : α} (r : (yLsg τ).rep K H F (.ref D) xs) (ru : τ.rep K H Fu u d) (ap : ∀ p, V.ref D = .ref p → p ∉ Fu) (hm : Mi.app xs d = some ys)
    (k : ∀ H' F', Chg F H H' → (yLsg τ).rep K H' F' (.ref D) ys → Sub F F' → Sub F' (F ++ Fu) → N H') : AppG D N u H := by
  have h := m_appG (Q := fun _ H' => N H') r ru ap hm k
  obtain ⟨l, xs', y, e, e2, g, hz, q⟩ := h
  obtain rfl := V.ref.inj e
  obtain rfl : u = y := by simpa using e2
  exact ⟨xs', g, hz, q⟩
theorem enumF_at {α : Type} : ∀ (k : Int) (xs : List α) (i : Nat) {x : α}, xs[i]? = some x → (Mi.enumF k xs)[i]? = some (k + i, x)
  | _, [], _, _, h => by simp at h
  | k, y :: ys, 0, x, h => by
    obtain rfl : y = x := by simpa using h
    show some (k, y) = some (k + ((0 : Nat) : Int), y)
    rw [show k + ((0 : Nat) : Int) = k by omega]
  | k, y :: ys, i + 1, x, h => by
    show (Mi.enumF (k + 1) ys)[i]? = _
    rw [enumF_at (k + 1) ys i (by simpa using h)]
    congr 2
    omega
theorem enumF_len {α : Type} : ∀ (k : Int) (xs : List α), (Mi.enumF k xs).length = xs.length
  | _, [] => rfl
  | k, _ :: ys => by show (Mi.enumF (k + 1) ys).length + 1 = ys.length + 1; rw [enumF_len]
theorem w_iEnum {ts : TA} {R : It → Hp → Prop} (h : ts σ H fun vs H1 => ∃ a xs, vs = [.ref a] ∧ SqL K H1 a xs ∧ R (Ite K a) H1) : iEnum K ts σ H R := h
theorem l_enum {tb : TS} {nx : L2.St → Hp → Prop} {xs : List α} {i1 i2 : Nat} (r : (yLst τ).rep K H F v xs) (Pv : Nat → L2.St → Hp → Prop) (h0 : Pv 0 σ H) (hl : ∀ i σ' H', Pv i σ' H' → (yLst τ).rep K H' F v xs)
    (hs : ∀ (i : Nat) (x : Int × α) (u : V) σ' H' H2, (Mi.enumF 0 xs)[i]? = some x → Chg [] H' H2 → τ.rep K H2 [] u x.2 → Pv i σ' H' → tb { D with nx := Pv (i + 1), ct := Pv (i + 1), bk := nx } ((σ'.set i1 (some (.int x.1))).set i2 (some u)) H2) (hd : ∀ σ' H', Pv (Mi.enumF 0 xs).length σ' H' → nx σ' H') :
    ∃ a xs, [v] = [.ref a] ∧ SqL K H a xs ∧ LoopG (Ite K a) (gTup K 2 (gCons (gName i1) (gCons (gName i2) gNil))) tb D nx σ H := by
  obtain ⟨a, vs, rfl, s, q⟩ := lst_sq r
  refine ⟨a, vs, rfl, s, fun i m σ' H' => m = xs.length - i ∧ i ≤ xs.length ∧ Pv i σ' H', ⟨xs.length, by omega, Nat.zero_le _, h0⟩, ?_⟩
  rintro i m σ' H' ⟨rfl, hi, p⟩
  obtain ⟨a', vs', e', s', q'⟩ := lst_sq (hl i σ' H' p)
  obtain rfl := V.ref.inj e'
  by_cases hlt : i < xs.length
  · obtain ⟨u, hu, ru⟩ := pr_get q' (List.getElem?_eq_getElem hlt)
    refine .inr ⟨⟨vs', u, s', hu⟩, Pv (i + 1), fun σ2 H2 p' => ⟨xs.length - (i + 1), by omega, rfl, hlt, p'⟩, fun x H2 y => ?_⟩
    obtain ⟨T, w, rfl, nT, rfl, y⟩ := y
    obtain rfl : w = u := Option.some.inj ((y _ s').symm.trans hu)
    have hx := enumF_at 0 xs i (List.getElem?_eq_getElem hlt)
    have c : Chg [] H' (upd H' T (.tup [.int (i : Nat), w])) := Chg.new nT
    have h := hs i _ w σ' H' _ hx c (Ty.ex ru c) p
    have e0 : (0 : Int) + (i : Int) = (i : Int) := Int.zero_add _
    rw [e0] at h
    exact ⟨T, _, rfl, .inl (.inl upd_same), rfl, _, _, rfl, _, _, rfl, rfl, h⟩
  · obtain rfl : i = xs.length := by omega
    exact .inl ⟨⟨vs', s', by rw [pr_len q']; exact Nat.le_refl _⟩, hd σ' H' (by rw [enumF_len]; exact p)⟩
end
end G
namespace G
theorem of_guard {p : Prop} [Decidable p] {u : Unit} (h : Mi.guardO (decide p) = some u) : p := by
  unfold Mi.guardO at h
  split at h
  · exact of_decide_eq_true (by assumption)
  · cases h
end G

/-! ### enumerate over a tuple -/
namespace PySem
open Sem (wp)
theorem enumT_meets (l : Addr) (its : Array Value) :
    Meets (Builtin.«enumerate.__new__» ⟨[.type "enumerate", .ref l], []⟩) (fun _ R s => s.heap.IsTuple l its ∧
      R (.ok (.ret (.ref (s.heap.push { cls := .type "tuple_iterator", data := .fields #[.ref l, .int 0 0] }).objs.size)))
        { s with heap := (s.heap.push { cls := .type "tuple_iterator", data := .fields #[.ref l, .int 0 0] }).push { cls := .type "enumerate", data := .fields #[.none, .bool false, .ref s.heap.objs.size, rawInt 0, .none, .none] } }) :=
  .of_wp fun prog w A R s hz => by
    obtain ⟨hp, gl, d, tk, os⟩ := s
    obtain ⟨hT, hz⟩ := hz
    have hsb := sub_enumerate
    have ht : Heap.IsTuple (Shared.heap ⟨hp, gl, d, tk, os⟩) l its := hT
    wp_walk
    refine wpAny_stack_any fun stk => wpAny_pure ?_
    split
    · rename_i c _ _ _ _ _
      cases (c == Value.type "enumerate")
      all_goals (wp_walk using wpAny_pyIter_tuple ht; exact ⟨_, rfl, hz⟩)
    · (wp_walk using wpAny_pyIter_tuple ht); exact ⟨_, rfl, hz⟩
section
variable {prog : Program} {w : World} {A : Around} {E : Value → Shared → Prop} {s : Shared}
theorem enumT_call {l : Addr} {its : Array Value} {Q : Value → Shared → Prop} (hL : s.heap.IsTuple l its)
    (k : ∀ h', IsEnum h' (s.heap.objs.size + 1) s.heap.objs.size 0 .none → h'.IsTupleIter s.heap.objs.size l 0 → h'.objs.size = s.heap.objs.size + 2 →
      (∀ b o, s.heap.get? b = some o → h'.get? b = some o) → Q (.ref (s.heap.objs.size + 1)) { s with heap := h' }) :
    wpAny (model prog w) A (call (.type "enumerate") [.ref l]) Q E s := by
  refine callType_new F.called_enumerate (by decide) (F.typeCall_enumerate_1 _) (F.newCall_enumerate_1 _) (fun ob => F.args_object_init_2 ob _) F.entry_enumerate_new (enumT_meets l its) ⟨hL, ?_⟩
  have sz : (s.heap.push { cls := .type "tuple_iterator", data := .fields #[.ref l, .int 0 0] }).objs.size = s.heap.objs.size + 1 := Heap.size_push ..
  show _ ∧ _
  rw [sz]
  have en : IsEnum ((s.heap.push { cls := .type "tuple_iterator", data := .fields #[.ref l, .int 0 0] }).push
      { cls := .type "enumerate", data := .fields #[.none, .bool false, .ref s.heap.objs.size, rawInt 0, .none, .none] }) (s.heap.objs.size + 1) s.heap.objs.size 0 .none := by
    have z := Heap.get?_push_size (s.heap.push { cls := .type "tuple_iterator", data := .fields #[.ref l, .int 0 0] })
      (o := { cls := .type "enumerate", data := .fields #[.none, .bool false, .ref s.heap.objs.size, rawInt 0, .none, .none] }) rfl
    rw [sz] at z; exact z
  exact ⟨⟨_, en, rfl⟩, k _ en ⟨_, Heap.get?_push_of_some _ (Heap.get?_push_size _ rfl), rfl, rfl⟩ (by rw [Heap.size_push, sz]) fun b o x => Heap.get?_push_of_some _ (Heap.get?_push_of_some _ x)⟩
end
end PySem
namespace L2
open PySem PySem.Spec PyProof.Rows
/-- the tuple at a, each item in a new pair -/
def ItT (K : PySem.W.Frag) (a : Addr) : It :=
  ⟨fun i H => ∃ (xs : List V) (x : V), SqT K H a xs ∧ xs[i]? = some x, fun i H v H' => ∃ T x, v = .ref T ∧ H T = none ∧ H' = upd H T (.tup [.int (i : Nat), x]) ∧ ∀ xs, SqT K H a xs → xs[i]? = some x, fun i H => ∃ xs : List V, SqT K H a xs ∧ xs.length ≤ i⟩
theorem turn_enumT {P : Program} {w : World} {K : PySem.W.Frag} {elts : List Expr} {kk : Nat} {tpos : Pos} (a e it : Addr) :
    Turn P w K (.Tuple elts kk tpos) (ItT K a) [e, it] e (fun i h => (∃ old, IsEnum h e it ((i : Nat) : Int) old) ∧ h.IsTupleIter it a i ∧ e ≠ it) where
  mem := by simp
  obj := fun i h st b hb => by
    obtain ⟨⟨old, he⟩, ⟨o, ho, hc, hd⟩, _⟩ := st
    rcases (show b = e ∨ b = it by simpa using hb) with z | z
    · rw [z]; exact ⟨_, he, fun v q => nomatch q⟩
    · rw [z]; exact ⟨o, ho, fun v q => by rw [hd] at q; cases q⟩
  keep := fun i h h' st k => let ⟨⟨old, he⟩, hi, hne⟩ := st; ⟨⟨old, k e (by simp) _ he⟩, hi.at fun o q => k it (by simp) o q, hne⟩
  item := by
    intro X hP hw hK hc i pins s σ H E I hf st hg
    subst hP hw hK
    obtain ⟨⟨old, hen⟩, hit, hne⟩ := st
    obtain ⟨xs, x, hsq, hx⟩ := hg
    obtain ⟨its, rv, pT, _⟩ := I.tuple hsq
    obtain ⟨u, hu, ru⟩ := rv.get hx
    have hel : e < s.heap.objs.size := Heap.lt_size hen
    have hil : it < s.heap.objs.size := by obtain ⟨_, q, _⟩ := hit; exact Heap.lt_size q
    have hT : s.heap.IsTuple a its.toArray := pT
    have hai : a ≠ it := fun z => by
      obtain ⟨o1, e1, c1, _⟩ := hT
      obtain ⟨o2, e2, c2, _⟩ := hit
      rw [z, e2] at e1
      cases e1
      rw [c1] at c2
      exact absurd c2 (by decide)
    have hea : e ≠ a := fun z => by
      obtain ⟨o1, e1, c1, _⟩ := hT
      rw [← z] at e1
      have z2 : s.heap.get? e = _ := hen
      rw [z2] at e1
      cases e1
      exact absurd (show (Value.type "enumerate" : Value) = .type "tuple" from c1) (by decide)
    have hD := Draws.tuple (prog := X.prog) (w := X.w) (A := X.A.in1) (I.ok.hd hc) it a hai its.toArray
    refine wpAny_pyNext_enum_itemD hD hen ⟨hit, hT⟩ (by have := (List.getElem?_eq_some_iff.mp hu).1; simpa using this) hne (by simp [hne, hea]) fun y h' tk hy ho st' hT1 hsz hk => ?_
    obtain rfl : u = y := by
      have hy' : its.toArray[i]? = some y := hy
      rw [List.getElem?_toArray, hu] at hy'
      exact Option.some.inj hy'
    refine ⟨_, rfl, wpAny_letOwnedTupleGo_enum (s := { s with heap := h', toks := tk + 1 }) ho fun h2 he2 sb => ?_⟩
    have hT2 : h2.get? s.heap.objs.size = some { cls := .type "tuple", data := .seq #[.int i tk, u] } := (sb.2 _ (Nat.ne_of_gt hel)).trans hT1
    have nw : ObjOk X.prog X.w (upd H s.heap.objs.size (.tup [.int (i : Nat), x])) h2 s.heap.objs.size (.tup [.int (i : Nat), x]) :=
      ⟨by show 2 ≤ sizeLine; decide, [.int i tk, u], .cons ⟨_, rfl⟩ (.cons ru .nil), ⟨_, hT2, rfl, _, rfl⟩⟩
    have I1 : Inv X pins σ (upd H s.heap.objs.size (.tup [.int (i : Nat), x])) { s with heap := h2, toks := tk + 1 } :=
      I.turnedNew (ch := [e, it]) (fun b ob hb q => (sb.2 b (fun z => hb (by simp [z]))).trans (hk b ob (fun z => hb (by simp [z])) (fun z => hb (by simp [z])) q)) hf (Nat.le_refl _) nw
    refine ⟨.ref s.heap.objs.size, _, I1, rfl, ⟨_, x, rfl, I.hok.fresh (Nat.le_refl _), rfl, fun ys hy => by rw [I.tuple_inj hy hsq]; exact hx⟩, ⟨⟨u, ?_⟩, st'.1.at fun o q => (sb.2 it (Ne.symm hne)).trans q, hne⟩, fun b hb => ?_⟩
    · rw [show ((i + 1 : Nat) : Int) = (i : Int) + 1 by omega]; exact he2
    · have hb' : b < s.heap.objs.size := by
        rcases (show b = e ∨ b = it by simpa using hb) with z | z
        · rw [z]; exact hel
        · rw [z]; exact hil
      rw [upd_ne (Nat.ne_of_lt hb')]
      exact (hf b hb).1
  done := by
    intro X hP hw hK hc i pins s σ H E I hf st hg
    subst hP hw hK
    obtain ⟨⟨old, hen⟩, hit, hne⟩ := st
    obtain ⟨xs, hsq, hx⟩ := hg
    obtain ⟨its, rv, pT, _⟩ := I.tuple hsq
    obtain ⟨f0, f1, f2, f3, f4, f5⟩ := hf it (by simp)
    have hl := rv.length
    have hT : s.heap.IsTuple a its.toArray := pT
    have hai : a ≠ it := fun z => by
      obtain ⟨o1, e1, c1, _⟩ := hT
      obtain ⟨o2, e2, c2, _⟩ := hit
      rw [z, e2] at e1
      cases e1
      rw [c1] at c2
      exact absurd c2 (by decide)
    have hTy : s.TypeIs (.ref e) "enumerate" := ⟨_, hen, rfl⟩
    unfold pyNext
    refine wpAny_bind (wpAny_attempt (wpAny_callSpecial?_slot (name := Str.ofString "__next__") hTy F.slot_enumerate_next (wpAny_call_entry F.slot_enumerate_next hTy F.entry_enumerate_next ?_ (F.args_enumerate_next_1 _))))
    show wpAny _ _ (field (.ref e) 2 >>= _) _ _ _
    refine wpAny_bind (wpAny_field hen rfl (x := .ref it) rfl ?_)
    refine wpAny_bind (wpAny_nextOf_tuple_end (I.ok.hd hc) hit hT (by simp; omega) fun h' y eb hy => ?_)
    obtain ⟨o, ho, hcl⟩ := hy
    refine wpAny_bind (wpAny_isInstance (T := "StopIteration") (b := true) ⟨o, ho, hcl⟩ isSubtype_stop ?_)
    exact wpAny_pure ⟨rfl, I.turned (t' := s.toks) (fun b o hb q => eb b o hb q) f0 f1 f3 f4 f5⟩
  self := fun A i s Q E st h => let ⟨⟨_, he⟩, _⟩ := st; wpAny_pyIter_enum he h
def iEnumT (K : PySem.W.Frag) (ta : TA) : TI := fun σ H R => ta σ H fun vs H1 => ∃ a xs, vs = [.ref a] ∧ SqT K H1 a xs ∧ R (ItT K a) H1
theorem pi_enumT {X : Cx} {e : Expr} {ta : TA} {p pos tpos : Pos} {elts : List Expr} {kk : Nat} (hg : Gl X "enumerate") (hm : X.mg "enumerate" = none) (ha : PA X [e] ta) (hs : starEach [e] X.env = [(false, eval e X.env)] := by rfl) :
    PI X (.Tuple elts kk tpos) (.Call (.Name "enumerate" p) [e] [] pos) (iEnumT X.K ta) := by
  refine ⟨fun pins s σ H R I h => ?_⟩
  refine Call_ (ld_blt I hg hm boot_enumerate (PyProof.Rows.callWith_type1 (thn (ha.run pos pins s σ H _ I h) fun us s1 ⟨vs, H1, I1, r1, q1⟩ => ?_) hs rfl))
  obtain ⟨a, xs, rfl, hsq, q⟩ := q1
  cases r1 with
  | cons r rr =>
    cases rr
    cases r
    obtain ⟨its, rv, pT, _⟩ := I1.tuple hsq
    refine enumT_call (show s1.heap.IsTuple a its.toArray from pT) fun h' hen hit hsz hk => wpAny_pyIter_enum hen ?_
    have I2 : Inv X pins σ H1 { s1 with heap := h' } := I1.kept (t' := s1.toks) hk
    refine ⟨s1.heap.objs.size + 1, [s1.heap.objs.size + 1, s1.heap.objs.size], _, _, H1, rfl, I2, turn_enumT a (s1.heap.objs.size + 1) s1.heap.objs.size, ⟨⟨.none, hen⟩, hit, Nat.succ_ne_self _⟩, fun b hb => ?_, q⟩
    have hle : s1.heap.objs.size ≤ b := by
      rcases (show b = s1.heap.objs.size + 1 ∨ b = s1.heap.objs.size by simpa using hb) with z | z
      · rw [z]; exact Nat.le_add_right _ _
      · rw [z]; exact Nat.le_refl _
    exact I1.fpOk hle (I1.hok.fresh hle)
end L2
namespace G
open PySem PySem.Spec PyProof.Rows L2
section
variable {K : PySem.W.Frag} {σ σ' : L2.St} {H : Hp} {F F1 F2 Fu : List Addr} {ta tb te : TE} {v u x y : V} {i j : Int} {α β : Type} {τ : Ty α} {υ : Ty β} {Q : VK} {D : Ends} {t1 t2 : TS} {g : TG} {ws : List Nat}
theorem w_iEnumT {ts : TA} {R : It → Hp → Prop} (h : ts σ H fun vs H1 => ∃ a xs, vs = [.ref a] ∧ SqT K H1 a xs ∧ R (ItT K a) H1) : iEnumT K ts σ H R := h
theorem l_enumT {tb : TS} {nx : L2.St → Hp → Prop} {xs : List α} {i1 i2 : Nat} (r : (yTupL τ).rep K H F v xs) (Pv : Nat → L2.St → Hp → Prop) (h0 : Pv 0 σ H) (hl : ∀ i σ' H', Pv i σ' H' → (yTupL τ).rep K H' F v xs)
    (hs : ∀ (i : Nat) (x : Int × α) (u : V) σ' H' H2, (Mi.enumF 0 xs)[i]? = some x → Chg [] H' H2 → τ.rep K H2 [] u x.2 → Pv i σ' H' → tb { D with nx := Pv (i + 1), ct := Pv (i + 1), bk := nx } ((σ'.set i1 (some (.int x.1))).set i2 (some u)) H2) (hd : ∀ σ' H', Pv (Mi.enumF 0 xs).length σ' H' → nx σ' H') :
    ∃ a xs, [v] = [.ref a] ∧ SqT K H a xs ∧ LoopG (ItT K a) (gTup K 2 (gCons (gName i1) (gCons (gName i2) gNil))) tb D nx σ H := by
  obtain ⟨a, vs, rfl, s, q⟩ := tupl_sq r
  refine ⟨a, vs, rfl, s, fun i m σ' H' => m = xs.length - i ∧ i ≤ xs.length ∧ Pv i σ' H', ⟨xs.length, by omega, Nat.zero_le _, h0⟩, ?_⟩
  rintro i m σ' H' ⟨rfl, hi, p⟩
  obtain ⟨a', vs', e', s', q'⟩ := tupl_sq (hl i σ' H' p)
  obtain rfl := V.ref.inj e'
  by_cases hlt : i < xs.length
  · obtain ⟨u, hu, ru⟩ := pr_get q' (List.getElem?_eq_getElem hlt)
    refine .inr ⟨⟨vs', u, s', hu⟩, Pv (i + 1), fun σ2 H2 p' => ⟨xs.length - (i + 1), by omega, rfl, hlt, p'⟩, fun x H2 y => ?_⟩
    obtain ⟨T, w, rfl, nT, rfl, y⟩ := y
    obtain rfl : w = u := Option.some.inj ((y _ s').symm.trans hu)
    have hx := enumF_at 0 xs i (List.getElem?_eq_getElem hlt)
    have c : Chg [] H' (upd H' T (.tup [.int (i : Nat), w])) := Chg.new nT
    have h := hs i _ w σ' H' _ hx c (Ty.ex ru c) p
    have e0 : (0 : Int) + (i : Int) = (i : Int) := Int.zero_add _
    rw [e0] at h
    exact ⟨T, _, rfl, .inl (.inl upd_same), rfl, _, _, rfl, _, _, rfl, rfl, h⟩
  · obtain rfl : i = xs.length := by omega
    exact .inl ⟨⟨vs', s', by rw [pr_len q']; exact Nat.le_refl _⟩, hd σ' H' (by rw [enumF_len]; exact p)⟩
end
end G

namespace G
open PySem PySem.Spec PyProof.Rows L2
section
variable {K : PySem.W.Frag} {σ σ' : L2.St} {H : Hp} {F F1 F2 Fu : List Addr} {ta tb te : TE} {v u x y : V} {i j : Int} {α β : Type} {τ : Ty α} {υ : Ty β} {Q : VK} {D : Ends} {t1 t2 : TS} {g : TG} {ws : List Nat}
theorem st_eq {t : TS} (e : σ = σ') (h : t D σ' H) : t D σ H := e ▸ h
theorem m_popAtG {xs : List α} {p : α × List α} (r : (yLsg τ).rep K H F v xs) (hm : Mi.popAt xs i = some p) (hb : xs.length ≤ Mi.big)
    (k : ∀ u H' Fi, Chg F H H' → τ.rep K H' Fi u p.1 → Sub Fi F → (yLsg τ).rep K H' F v p.2 → Q u H') : rPopAt v [.int i] H Q := by
  obtain ⟨l, vs, G, rfl, rfl, na, g, dm, q⟩ := r
  unfold Mi.popAt at hm
  obtain ⟨j, hj, hm⟩ := Mi.bnd hm
  obtain ⟨y, hy, hm⟩ := Mi.bnd hm
  obtain rfl := Option.some.inj hm
  obtain ⟨u, hu, Fi, ru, sb⟩ := pr_get q hy
  have c : Chg [l] H (upd H l (.lst (vs.eraseIdx j))) := Chg.wr g (fun z => z)
  have kp : ∀ {γ : Type} {ρ : Ty γ} {Fi : List Addr} {w : V} {e : γ}, ρ.rep K H Fi w e → l ∉ Fi → ρ.rep K (upd H l (.lst (vs.eraseIdx j))) Fi w e := fun rr hn => Ty.chg rr c fun b hb z => by
    rw [List.mem_singleton] at z; subst z; exact hn hb
  obtain ⟨h1, h2, h3, h4⟩ := ixN_seq (show L2.ixN vs.length i = some j by rw [pr_len q]; exact hj)
  have hb2 : vs.length ≤ 1000000 := by rw [pr_len q]; exact hb
  refine ⟨l, vs, i, j, u, rfl, rfl, g, by omega, by omega, h1, hu, k u _ Fi (c.mono fun b hb => by rw [List.mem_singleton] at hb; subst hb; exact List.mem_cons_self ..) (kp ru fun hp => na (sb l hp)) (fun b hb => List.mem_cons_of_mem _ (sb b hb)) ⟨l, _, G, rfl, rfl, na, upd_same, fun b hb => ?_, Paired.mapP (pr_erase q j) fun w e z => ?_⟩⟩
  · obtain ⟨o, ho, hf⟩ := dm b hb
    have hbl : b ≠ l := fun z => by subst z; exact na hb
    exact ⟨o, by rw [upd_ne hbl]; exact ho, hf⟩
  · obtain ⟨Fi, rr, s2⟩ := z
    exact ⟨Fi, kp rr fun hp => na (s2 l hp), s2⟩
end
end G
namespace G
open PySem PySem.Spec PyProof.Rows L2
theorem pe_fldk {X : Cx} {K : PySem.W.Frag} {e : Expr} {f : Str} {pos : Pos} {ta : TE} (he : PE X e ta) (hb : attributeBase e f X.env (eval e X.env) = eval e X.env) (hk : X.K = K := by rfl) : PE X (.Attribute e f pos) (tFld K ta f) := by
  subst hk; exact pe_fld he hb
end G

namespace G
open PySem PySem.Spec PyProof.Rows L2
/-! ### texts -/
theorem toS_len (l : List Nat) : (toS l).length = l.length := by simp [toS, Str.length]
theorem toS_tl (l : List Nat) : (toS l).cps.toList = l := by simp [toS]
theorem toS_inj {a b : List Nat} (h : toS a = toS b) : a = b := by rw [← toS_tl a, h, toS_tl]
theorem toS_of {x : Str} {l : List Nat} (h : x.cps.toList = l) : x = toS l := by
  obtain ⟨c⟩ := x
  show Str.mk c = Str.mk l.toArray
  congr 1
  rw [← h]
theorem toS_app (a b : List Nat) : toS a ++ toS b = toS (a ++ b) := toS_of (by
  refine (TL.tl_append (toS a) (toS b)).trans ?_
  show (toS a).cps.toList ++ (toS b).cps.toList = _
  rw [toS_tl, toS_tl])
theorem dTx {a b : List Nat} : decide (V.str (toS a) = V.str (toS b)) = decide (a = b) := by
  by_cases h : a = b
  · subst h; simp
  · rw [decide_eq_false h, decide_eq_false]
    intro z
    exact h (toS_inj (V.str.inj z))
theorem bigS {n : Nat} (h : n ≤ Mi.big) : n ≤ sizeLine := Nat.le_trans h (by decide)
section
variable {X : Cx} {K : PySem.W.Frag} {σ σ' : L2.St} {H : Hp} {F F1 F2 Fu : List Addr} {ta tb te to : TE} {v u x y : V} {i j : Int} {α β : Type} {τ : Ty α} {υ : Ty β} {Q : VK} {D : Ends} {g : TG} {ws : List Nat} {a b c : List Nat} {t tu tt : TT}
theorem val_cS {s : Str} (h : s = toS a) : Val (tC (.str s)) σ H (.str (toS a)) := by subst h; exact val_c
theorem val_eqS (ha : Val ta σ H (.str (toS a))) (hb : Val tb σ H (.str (toS b))) : Val (tOp rEq ta tb) σ H (.bl (decide (a = b))) := val_op ha hb fun Q q => ⟨rfl, by rw [dTx]; exact q⟩
theorem val_neS (ha : Val ta σ H (.str (toS a))) (hb : Val tb σ H (.str (toS b))) : Val (tOp rNe ta tb) σ H (.bl (!decide (a = b))) := val_op ha hb fun Q q => ⟨rfl, by rw [dTx]; exact q⟩
theorem w_eqS (k : Q (.bl (decide (a = b))) H) : rEq (.str (toS a)) (.str (toS b)) H Q := ⟨rfl, by rw [dTx]; exact k⟩
theorem w_neS (k : Q (.bl (!decide (a = b))) H) : rNe (.str (toS a)) (.str (toS b)) H Q := ⟨rfl, by rw [dTx]; exact k⟩
/-- len -/
def rLenT : List V → Hp → VK → Prop := fun xs H Q => ∃ z, xs = [.str z] ∧ z.length ≤ sizeLine ∧ Q (.int z.length) H
theorem cl_lenTx : CallR X (.builtin "len") rLenT := call_len_str
theorem w_lenTx {n : Int} (hm : Mi.sLen a = some n) (k : Q (.int n) H) : rLenT [.str (toS a)] H Q := by
  unfold Mi.sLen at hm
  split at hm
  · obtain rfl := Option.some.inj hm
    exact ⟨_, rfl, by rw [toS_len]; exact bigS (by assumption), by rw [toS_len]; exact k⟩
  · cases hm
theorem val_lenTx {n : Int} (hm : Mi.sLen a = some n) (ha : Val ta σ H (.str (toS a))) : Val (tCB rLenT (tCons ta tNil)) σ H (.int n) := fun Q k => ha _ (w_lenTx hm k)
/-- s[i] -/
theorem w_ixS (hm : Mi.sAt a i = some b) (k : Q (.str (toS b)) H) : rIxS (.str (toS a)) (.int i) H Q := by
  unfold Mi.sAt at hm
  split at hm
  · cases e : Mi.at_ a i with
    | none => rw [e] at hm; cases hm
    | some z =>
      rw [e] at hm
      obtain rfl := Option.some.inj hm
      exact ⟨_, i, z, rfl, rfl, by rw [toS_len]; exact bigS (by assumption), by rw [toS_tl]; exact e, k⟩
  · cases hm
theorem val_ixS (hm : Mi.sAt a i = some b) (ha : Val ta σ H (.str (toS a))) (hb : Val tb σ H (.int i)) : Val (tOp rIxS ta tb) σ H (.str (toS b)) := val_op ha hb fun Q q => w_ixS hm q
/-- s + t -/
theorem op_catS : OpR X (binaryOp .Add) rAddS := op_add_str
theorem w_catS (hm : Mi.sCat a b = some c) (k : Q (.str (toS c)) H) : rAddS (.str (toS a)) (.str (toS b)) H Q := by
  unfold Mi.sCat at hm
  split at hm
  · obtain rfl := Option.some.inj hm
    exact ⟨_, _, rfl, rfl, by rw [toS_len, toS_len]; exact bigS (by assumption), by rw [toS_app]; exact k⟩
  · cases hm
theorem val_catS (hm : Mi.sCat a b = some c) (ha : Val ta σ H (.str (toS a))) (hb : Val tb σ H (.str (toS b))) : Val (tOp rAddS ta tb) σ H (.str (toS c)) := val_op ha hb fun Q q => w_catS hm q
/-- c in s -/
def rInC : R2 := fun x y H Q => ∃ (c : Nat) (z : Str), x = .str ⟨#[c]⟩ ∧ y = .str z ∧ Q (.bl (decide (c ∈ z.cps.toList))) H
def rNiC : R2 := fun x y H Q => ∃ (c : Nat) (z : Str), x = .str ⟨#[c]⟩ ∧ y = .str z ∧ Q (.bl (!decide (c ∈ z.cps.toList))) H
theorem op_in_c : OpR X (compareOp .In) rInC := op_in_sign
theorem op_ni_c : OpR X (compareOp .NotIn) rNiC := op_notIn_sign
theorem sIn_some {k : Bool} (hm : Mi.sIn a b = some k) : ∃ c, a = [c] ∧ decide (c ∈ b) = k := by
  match a, hm with
  | [c], hm => exact ⟨c, rfl, by rw [← List.contains_eq_mem]; exact Option.some.inj hm⟩
theorem w_inC {k : Bool} (hm : Mi.sIn a b = some k) (q : Q (.bl k) H) : rInC (.str (toS a)) (.str (toS b)) H Q := by
  obtain ⟨c, rfl, e⟩ := sIn_some hm
  exact ⟨c, _, rfl, rfl, by rw [toS_tl, e]; exact q⟩
theorem w_niC {k : Bool} (hm : Mi.sIn a b = some k) (q : Q (.bl (!k)) H) : rNiC (.str (toS a)) (.str (toS b)) H Q := by
  obtain ⟨c, rfl, e⟩ := sIn_some hm
  exact ⟨c, _, rfl, rfl, by rw [toS_tl, e]; exact q⟩
theorem val_inC {k : Bool} (hm : Mi.sIn a b = some k) (ha : Val ta σ H (.str (toS a))) (hb : Val tb σ H (.str (toS b))) : Val (tOp rInC ta tb) σ H (.bl k) := val_op ha hb fun Q q => w_inC hm q
theorem val_niC {k : Bool} (hm : Mi.sIn a b = some k) (ha : Val ta σ H (.str (toS a))) (hb : Val tb σ H (.str (toS b))) : Val (tOp rNiC ta tb) σ H (.bl (!k)) := val_op ha hb fun Q q => w_niC hm q
/-- s[lo:hi] -/
theorem sIx_eq (n d : Nat) (o : Option Int) : HT.sIx n d o = Mi.sIx n d o := by
  cases o <;> rfl
theorem w_cutS {lo hi : Option Int} (hm : Mi.sCut a lo hi = some b) (k : Q (.str (toS b)) H) : rSlS (.str (toS a)) lo hi H Q := by
  unfold Mi.sCut at hm
  split at hm
  · obtain rfl := Option.some.inj hm
    refine ⟨_, rfl, by rw [toS_len]; exact bigS (by assumption), ?_⟩
    have e : cutS (toS a) lo hi = toS (Mi.cut a lo hi) := by
      unfold cutS
      rw [toS_tl, toS_len, sIx_eq, sIx_eq]
      rfl
    rw [e]; exact k
  · cases hm
/-- sep.join(xs) -/
def rJoinQ (K : PySem.W.Frag) : V → List V → Hp → VK → Prop := fun x xs H Q => ∃ a p, ∃ ys : List Str, x = .str a ∧ xs = [.ref p] ∧ (SqL K H p (ys.map V.str) ∨ SqT K H p (ys.map V.str)) ∧ (ys.map (·.length)).sum + ys.length * a.length ≤ 16777216 ∧ Q (.str (Txt.join a ys)) H
theorem pe_joinQ {K : PySem.W.Frag} {o e : Expr} {apos pos : Pos} (ho : PE X o to) (he : PE X e te) (hk : X.K = K := by rfl) (hs : starEach [e] X.env = [(false, eval e X.env)] := by rfl) (hbase : attributeBase o "join" X.env (eval o X.env) = eval o X.env := by rfl) (hline : (apos.endLine == pos.line) = true := by rfl) :
    PE X (.Call (.Attribute o "join" apos) [e] [] pos) (tM1 (rJoinQ K) to te) := by subst hk; exact pe_join ho he hs hbase hline
theorem joinL_eq (s : List Nat) : ∀ xs : List (List Nat), TL.joinL s xs = Mi.joinL s xs
  | [] => rfl
  | [_] => rfl
  | p :: q :: r => by
    show p ++ (s ++ TL.joinL s (q :: r)) = p ++ (s ++ Mi.joinL s (q :: r))
    rw [joinL_eq s (q :: r)]
theorem strs_mk : ∀ {vs : List V} {xs : List (List Nat)}, Paired (fun u d => yStr.rep K H [] u d) vs xs → vs = (xs.map toS).map V.str
  | _, _, .nil => rfl
  | _, _, .cons r t => by rw [r.2, strs_mk t]; rfl
theorem w_joinL {xs : List (List Nat)} {sep out : List Nat} (r : (yLst yStr).rep K H F v xs) (hm : Mi.sJoin sep xs = some out) (k : Q (.str (toS out)) H) : rJoinQ K (.str (toS sep)) [v] H Q := by
  obtain ⟨p, vs, rfl, s, q⟩ := lst_sq r
  obtain rfl := strs_mk q
  unfold Mi.sJoin at hm
  split at hm
  · rename_i hz
    obtain rfl := Option.some.inj hm
    refine ⟨_, p, xs.map toS, rfl, rfl, .inl s, ?_, ?_⟩
    · rw [List.map_map, List.length_map, toS_len]
      have e : ((fun x : Str => x.length) ∘ toS) = fun l : List Nat => l.length := by funext l; exact toS_len l
      rw [e]
      exact Nat.le_trans hz (by decide)
    · have e : Txt.join (toS sep) (xs.map toS) = toS (Mi.joinL sep xs) := by
        rw [TL.join_eq]
        refine toS_of ?_
        refine (TL.tl_join (toS sep) (xs.map toS)).trans ?_
        rw [List.map_map]
        have e2 : (fun x : Str => x.cps.toList) ∘ toS = fun l : List Nat => l := by funext l; exact toS_tl l
        show TL.joinL (toS sep).cps.toList (xs.map ((fun x : Str => x.cps.toList) ∘ toS)) = _
        rw [e2, toS_tl, List.map_id', joinL_eq]
      rw [e]; exact k
  · cases hm
theorem w_m1 {r : V → List V → Hp → VK → Prop} (h : to σ H fun x H1 => (∃ a, x = .str a) ∧ te σ H1 fun y H2 => r x [y] H2 Q) : tM1 r to te σ H Q := h
/-- for c in s -/
theorem w_iStr {R : It → Hp → Prop} (h : te σ H fun v H1 => ∃ x, v = .str x ∧ R (Its x) H1) : iStr te σ H R := h
theorem signs_at {s : List Nat} {n c : Nat} (h : s[n]? = some c) : (Mi.signs s)[n]? = some [c] := by
  unfold Mi.signs
  rw [List.getElem?_map, h]; rfl
theorem signs_len (s : List Nat) : (Mi.signs s).length = s.length := List.length_map ..
theorem l_str {tb : TS} {nx : L2.St → Hp → Prop} (Pv : Nat → L2.St → Hp → Prop) (h0 : Pv 0 σ H)
    (hs : ∀ (i : Nat) (x : List Nat) σ' H', (Mi.signs a)[i]? = some x → Pv i σ' H' → g (.str (toS x)) σ' H' fun σ2 H2 => tb { D with nx := Pv (i + 1), ct := Pv (i + 1), bk := nx } σ2 H2) (hd : ∀ σ' H', Pv (Mi.signs a).length σ' H' → nx σ' H') :
    ∃ x, V.str (toS a) = .str x ∧ LoopG (Its x) g tb D nx σ H := by
  have ez : (toS a).cps.size = a.length := toS_len a
  refine ⟨_, rfl, fun i m σ' H' => m = a.length - i ∧ i ≤ a.length ∧ Pv i σ' H', ⟨a.length, by omega, Nat.zero_le _, h0⟩, ?_⟩
  rintro i m σ' H' ⟨rfl, hi, p⟩
  by_cases hlt : i < a.length
  · refine .inr ⟨by show i < (toS a).cps.size; omega, Pv (i + 1), fun σ2 H2 p' => ⟨a.length - (i + 1), by omega, rfl, hlt, p'⟩, fun x H2 y => ?_⟩
    obtain ⟨rfl, z, hz, rfl⟩ := y
    have hz' : a[i]? = some z := by
      have e : (toS a).cps.toList[i]? = some z := by rw [Array.getElem?_toList]; exact hz
      rw [toS_tl] at e; exact e
    exact hs i [z] σ' _ (signs_at hz') p
  · obtain rfl : i = a.length := by omega
    exact .inl ⟨by show (toS a).cps.size ≤ _; omega, hd σ' H' (by rw [signs_len]; exact p)⟩
theorem kc_str (Pv : Addr → Nat → Hp → Prop) (h0 : ∀ D H', H D = none → Chg [] H H' → (yLst τ).rep K H' [D] (.ref D) [] → Pv D 0 H')
    (hs : ∀ D (i : Nat) (x : List Nat) H', (Mi.signs a)[i]? = some x → Pv D i H' → TurnG g tt te ws σ D (Pv D (i + 1)) (.str (toS x)) H') (hd : ∀ D H', H D = none → Pv D (Mi.signs a).length H' → Q (.ref D) H') :
    ∃ x, V.str (toS a) = .str x ∧ CompG (Its x) g tt te ws σ H Q := by
  have ez : (toS a).cps.size = a.length := toS_len a
  refine ⟨_, rfl, comp_by (K := K) (τ := τ) a.length Pv h0 (fun D i H' hi p => ⟨by show i < (toS a).cps.size; omega, fun x H2 y => ?_⟩) (fun D H' hD p => ⟨by show (toS a).cps.size ≤ _; omega, hd D H' hD (by rw [signs_len]; exact p)⟩)⟩
  obtain ⟨rfl, z, hz, rfl⟩ := y
  have hz' : a[i]? = some z := by
    have e : (toS a).cps.toList[i]? = some z := by rw [Array.getElem?_toList]; exact hz
    rw [toS_tl] at e; exact e
  exact hs D i [z] _ (signs_at hz') p
/-- int of a bool -/
theorem val_intB {b : Bool} (ha : Val ta σ H (.bl b)) : Val (tCB rInt1 (tCons ta tNil)) σ H (.int (Mi.bI b)) := fun Q q => ha _ (.inr ⟨b, rfl, by cases b <;> exact q⟩)
theorem w_intB {b : Bool} (k : Q (.int (Mi.bI b)) H) : rInt1 [.bl b] H Q := .inr ⟨b, rfl, by cases b <;> exact k⟩
/-- isinstance of None or data -/
theorem val_isiO {n m : String} {b : Bool} {d : Option α} (ty : ∀ {F x}, τ.rep K H F v x → TyX K H v (.type n)) (r : (yOpt τ).rep K H F v d) (ha : Val ta σ H v) (h1 : kitB n m = some b) (h2 : kitB "NoneType" m = some false) : Val (tCB (rIsi K) (tCons ta (tCons (tC (.ty m)) tNil))) σ H (.bl (d.isSome && b)) := by
  cases d with
  | none =>
    obtain ⟨_, rfl⟩ := r
    exact val_isi ha ty_non h2
  | some x =>
    have := val_isi ha (ty r.2) h1
    rw [show ((some x).isSome && b) = b by cases b <;> rfl]
    exact this
theorem tyr_int {x : Int} (r : yInt.rep K H F v x) : TyX K H v (.type "int") := by obtain ⟨_, rfl⟩ := r; exact ty_int
theorem tyr_bool {x : Bool} (r : yBool.rep K H F v x) : TyX K H v (.type "bool") := by obtain ⟨_, rfl⟩ := r; exact ty_bl
theorem tyr_str {x : List Nat} (r : yStr.rep K H F v x) : TyX K H v (.type "str") := by obtain ⟨_, rfl⟩ := r; exact ty_str
end
/-! ### data with texts -/
structure DatO {α : Type} (τ : Ty α) (n : Nat) where
  f : α → PyData
  ok : α → Bool
  dec : DecidableEq α
  dp : ∀ {K : PySem.W.Frag} {H : Hp} {F : List Addr} {v : V} {d : α}, τ.rep K H F v d → Dp K H v (f d)
  lay : ∀ d, ok d = true → (f d).canLay0 = true
  dpt : ∀ d, (f d).depth ≤ n
  eqv : ∀ d e, PyData.eqv (f d) (f e) = decide (d = e)
def Dat.o {α : Type} {τ : Ty α} {n : Nat} (d : Dat τ n) : DatO τ n := ⟨d.f, fun _ => true, d.dec, d.dp, fun x _ => d.lay x, d.dpt, d.eqv⟩
def dao_str : DatO yStr 0 where
  f := fun l => .str (toS l)
  ok := Mi.okS
  dec := inferInstance
  dp := fun h => by obtain ⟨_, rfl⟩ := h; exact .str _
  lay := fun d h => by
    have e : (toS d).cps = d.toArray := rfl
    simp only [PyData.canLay0, PyData.strOk, e]
    unfold Mi.okS at h
    simpa using h
  dpt := fun d => by simp [PyData.depth]
  eqv := fun d e => by
    simp only [PyData.eqv]
    rw [beq_dec]
    by_cases h : d = e
    · subst h; simp
    · rw [decide_eq_false h, decide_eq_false]
      intro z; exact h (toS_inj z)
section
variable {α β : Type} {τ : Ty α} {n m : Nat}
theorem layAllO {f : α → PyData} {ok : α → Bool} (h : ∀ d, ok d = true → (f d).canLay0 = true) : ∀ xs : List α, xs.all ok = true → PyData.canLayAll0 (xs.map f) = true
  | [], _ => by simp [PyData.canLayAll0]
  | x :: xs, q => by
    rw [List.all_cons, Bool.and_eq_true] at q
    simp [PyData.canLayAll0, h x q.1, layAllO h xs q.2]
def dao_lst (d : DatO τ n) : DatO (yLst τ) (n + 1) where
  f := fun xs => .list (xs.map d.f)
  ok := fun xs => xs.all d.ok
  dec := @instDecidableEqList _ d.dec
  dp := fun h => by
    obtain ⟨a, vs, rfl, s, q⟩ := lst_sq h
    exact .lst s (dpAll (fun u x z => d.dp z) q)
  lay := fun xs h => by simp only [PyData.canLay0]; exact layAllO d.lay xs h
  dpt := fun xs => by simp only [PyData.depth]; exact Nat.succ_le_succ (dptAll d.dpt xs)
  eqv := fun xs ys => by simp only [PyData.eqv]; exact @eqvAllL _ d.dec _ d.eqv xs ys
def dao_lsg (d : DatO τ n) : DatO (yLsg τ) (n + 1) where
  f := fun xs => .list (xs.map d.f)
  ok := fun xs => xs.all d.ok
  dec := @instDecidableEqList _ d.dec
  dp := fun h => by
    obtain ⟨a, vs, rfl, _, s, q⟩ := lsg_sq h
    exact .lst s (dpAll (fun u x z => by obtain ⟨Fi, ru, _⟩ := z; exact d.dp ru) q)
  lay := fun xs h => by simp only [PyData.canLay0]; exact layAllO d.lay xs h
  dpt := fun xs => by simp only [PyData.depth]; exact Nat.succ_le_succ (dptAll d.dpt xs)
  eqv := fun xs ys => by simp only [PyData.eqv]; exact @eqvAllL _ d.dec _ d.eqv xs ys
def dao_tupl (d : DatO τ n) : DatO (yTupL τ) (n + 1) where
  f := fun xs => .tuple (xs.map d.f)
  ok := fun xs => xs.all d.ok
  dec := @instDecidableEqList _ d.dec
  dp := fun h => by
    obtain ⟨a, vs, rfl, s, q⟩ := tupl_sq h
    exact .tup s (dpAll (fun u x z => d.dp z) q)
  lay := fun xs h => by simp only [PyData.canLay0]; exact layAllO d.lay xs h
  dpt := fun xs => by simp only [PyData.depth]; exact Nat.succ_le_succ (dptAll d.dpt xs)
  eqv := fun xs ys => by simp only [PyData.eqv]; exact @eqvAllL _ d.dec _ d.eqv xs ys
end
structure SatO {α : Type} (ts : Tys α) (n : Nat) where
  f : α → List PyData
  ok : α → Bool
  dec : DecidableEq α
  dp : ∀ {K : PySem.W.Frag} {H : Hp} {F : List Addr} {vs : List V} {d : α}, ts.rep K H F vs d → DpAll K H vs (f d)
  lay : ∀ d, ok d = true → PyData.canLayAll0 (f d) = true
  dpt : ∀ d, PyData.depthAll (f d) ≤ n
  eqv : ∀ d e, PyData.eqvAll (f d) (f e) = decide (d = e)
section
variable {α β : Type} {τ : Ty α} {ts : Tys β} {n m : Nat}
def sao_one (d : DatO τ n) : SatO (sOne τ) n where
  f := fun x => [d.f x]
  ok := d.ok
  dec := d.dec
  dp := fun h => by obtain ⟨v, rfl, r⟩ := h; exact .cons (d.dp r) .nil
  lay := fun x h => by simp [PyData.canLayAll0, d.lay x h]
  dpt := fun x => by simp only [PyData.depthAll]; exact Nat.max_le.mpr ⟨d.dpt x, Nat.zero_le _⟩
  eqv := fun x y => by simp [PyData.eqvAll, d.eqv x y]
def sao_cons (d : DatO τ n) (s : SatO ts m) : SatO (sCons τ ts) (max n m) where
  f := fun x => d.f x.1 :: s.f x.2
  ok := fun x => d.ok x.1 && s.ok x.2
  dec := @instDecidableEqProd _ _ d.dec s.dec
  dp := fun h => by obtain ⟨v, ws, F1, F2, rfl, _, r, q⟩ := h; exact .cons (d.dp r) (s.dp q)
  lay := fun x h => by
    rw [Bool.and_eq_true] at h
    simp [PyData.canLayAll0, d.lay x.1 h.1, s.lay x.2 h.2]
  dpt := fun x => by
    simp only [PyData.depthAll]
    have h1 := d.dpt x.1
    have h2 := s.dpt x.2
    omega
  eqv := fun x y => by
    obtain ⟨x1, x2⟩ := x
    obtain ⟨y1, y2⟩ := y
    letI := d.dec
    letI := s.dec
    simp only [PyData.eqvAll, d.eqv x1 y1, s.eqv x2 y2]
    by_cases h1 : x1 = y1
    · by_cases h2 : x2 = y2
      · subst h1 h2; simp
      · have : ¬ ((x1, x2) = (y1, y2)) := fun e => h2 (Prod.mk.inj e).2
        simp only [h2, decide_false, Bool.and_false]
        exact (decide_eq_false this).symm
    · have : ¬ ((x1, x2) = (y1, y2)) := fun e => h1 (Prod.mk.inj e).1
      simp only [h1, decide_false, Bool.false_and]
      exact (decide_eq_false this).symm
def dao_tup (s : SatO ts m) : DatO (yTup ts) (m + 1) where
  f := fun x => .tuple (s.f x)
  ok := s.ok
  dec := s.dec
  dp := fun h => by obtain ⟨a, vs, rfl, sq, q⟩ := h; exact .tup sq (s.dp q)
  lay := fun x h => by simp only [PyData.canLay0]; exact s.lay x h
  dpt := fun x => by simp only [PyData.depth]; exact Nat.succ_le_succ (s.dpt x)
  eqv := fun x y => by simp only [PyData.eqv]; exact s.eqv x y
theorem DatO.shaped (d : DatO τ n) (hn : n ≤ 64) (x : α) (h : d.ok x = true) : SeqAt.shaped (d.f x) = true := by
  unfold SeqAt.shaped
  rw [d.lay x h, decide_eq_true (Nat.le_trans (d.dpt x) hn)]
  rfl
variable {K : PySem.W.Frag} {H : Hp} {F1 F2 : List Addr} {v u : V} {Q : VK} {x y : α}
theorem okB {a b : Bool} {z : Unit} (h : Mi.guardO (a && b) = some z) : a = true ∧ b = true := by
  unfold Mi.guardO at h
  split at h
  · rename_i q; rw [Bool.and_eq_true] at q; exact q
  · cases h
theorem w_eqO [i : DecidableEq α] {z : Unit} (d : DatO τ n) (r : τ.rep K H F1 v x) (q : τ.rep K H F2 u y) (g : Mi.guardO (d.ok x && d.ok y) = some z) (k : Q (.bl (decide (x = y))) H) (hn : n ≤ 64 := by decide) : rEqD K v u H Q :=
  ⟨_, _, d.dp r, d.dp q, d.shaped hn x (okB g).1, d.shaped hn y (okB g).2, by
    have e : @decide (x = y) (d.dec x y) = @decide (x = y) (i x y) := by congr
    rw [d.eqv, e]; exact k⟩
theorem w_neO [i : DecidableEq α] {z : Unit} (d : DatO τ n) (r : τ.rep K H F1 v x) (q : τ.rep K H F2 u y) (g : Mi.guardO (d.ok x && d.ok y) = some z) (k : Q (.bl (!decide (x = y))) H) (hn : n ≤ 64 := by decide) : rNeD K v u H Q :=
  ⟨_, _, d.dp r, d.dp q, d.shaped hn x (okB g).1, d.shaped hn y (okB g).2, by
    have e : @decide (x = y) (d.dec x y) = @decide (x = y) (i x y) := by congr
    rw [d.eqv, e]; exact k⟩
end
end G

namespace G
open PySem PySem.Spec PyProof.Rows L2
/-! ### a list that owns its items: no two of them share a cell -/
inductive Par3 {α : Type} (R : V → List Addr → α → Prop) : List V → List (List Addr) → List α → Prop
  | nil : Par3 R [] [] []
  | cons {u : V} {Fi : List Addr} {x : α} {vs : List V} {Fs : List (List Addr)} {xs : List α} : R u Fi x → Par3 R vs Fs xs → Par3 R (u :: vs) (Fi :: Fs) (x :: xs)
theorem Par3.mapP {α : Type} {R S : V → List Addr → α → Prop} : ∀ {vs Fs} {xs : List α}, Par3 R vs Fs xs → (∀ u Fi x, Fi ∈ Fs → R u Fi x → S u Fi x) → Par3 S vs Fs xs
  | _, _, _, .nil, _ => .nil
  | _, _, _, .cons r t, h => .cons (h _ _ _ (List.mem_cons_self ..) r) (Par3.mapP t fun u Fi x m => h u Fi x (List.mem_cons_of_mem _ m))
theorem Par3.len {α : Type} {R : V → List Addr → α → Prop} : ∀ {vs Fs} {xs : List α}, Par3 R vs Fs xs → vs.length = xs.length ∧ Fs.length = xs.length
  | _, _, _, .nil => ⟨rfl, rfl⟩
  | _, _, _, .cons r t => by
    have := Par3.len t
    simp [this.1, this.2]
theorem Par3.get {α : Type} {R : V → List Addr → α → Prop} : ∀ {vs Fs} {xs : List α} (_ : Par3 R vs Fs xs) {j : Nat} {x : α}, xs[j]? = some x → ∃ u Fi, vs[j]? = some u ∧ Fs[j]? = some Fi ∧ R u Fi x
  | _, _, _, .nil, j, x, h => by simp at h
  | _, _, _, .cons (u := u) (Fi := Fi) r t, 0, x, h => by
    obtain rfl := Option.some.inj h
    exact ⟨u, Fi, rfl, rfl, r⟩
  | _, _, _, .cons r t, j + 1, x, h => Par3.get t (j := j) h
theorem Par3.pr {α : Type} {R : V → List Addr → α → Prop} {S : V → α → Prop} : ∀ {vs Fs} {xs : List α}, Par3 R vs Fs xs → (∀ u Fi x, Fi ∈ Fs → R u Fi x → S u x) → Paired S vs xs
  | _, _, _, .nil, _ => .nil
  | _, _, _, .cons r t, h => .cons (h _ _ _ (List.mem_cons_self ..) r) (Par3.pr t fun u Fi x m => h u Fi x (List.mem_cons_of_mem _ m))
/-- the j-th item changed, the others apart from what changed -/
theorem Par3.setAt {α : Type} {R S : V → List Addr → α → Prop} : ∀ {vs Fs} {xs : List α} (_ : Par3 R vs Fs xs) {j : Nat} {u : V} {Fi : List Addr} {y : α}, vs[j]? = some u → Fs[j]? = some Fi → S u Fi y → (∀ (k : Nat) u' Fk x, k ≠ j → Fs[k]? = some Fk → R u' Fk x → S u' Fk x) → Par3 S vs Fs (xs.set j y)
  | _, _, _, .nil, j, u, Fi, y, h, _, _, _ => by simp at h
  | _, _, _, .cons r t, 0, u, Fi, y, h1, h2, hs, ho => by
    obtain rfl := Option.some.inj h1
    obtain rfl := Option.some.inj h2
    refine .cons hs (Par3.mapP' t fun k u' Fk x hk hr => ho (k + 1) u' Fk x (by omega) hk hr)
  | _, _, _, .cons (u := u0) (Fi := F0) r t, j + 1, u, Fi, y, h1, h2, hs, ho => .cons (ho 0 _ _ _ (by omega) rfl r) (Par3.setAt t (j := j) h1 h2 hs fun k u' Fk x hk hf hr => ho (k + 1) u' Fk x (by omega) hf hr)
where
  Par3.mapP' {α : Type} {R S : V → List Addr → α → Prop} : ∀ {vs Fs} {xs : List α}, Par3 R vs Fs xs → (∀ (k : Nat) u Fk x, Fs[k]? = some Fk → R u Fk x → S u Fk x) → Par3 S vs Fs xs
  | _, _, _, .nil, _ => .nil
  | _, _, _, .cons r t, h => .cons (h 0 _ _ _ rfl r) (Par3.mapP' t fun k u Fk x hk => h (k + 1) u Fk x hk)
def yOwn {α : Type} (τ : Ty α) : Ty (List α) where
  rep K H F v xs := ∃ a vs Fs, v = .ref a ∧ F = a :: Fs.flatten ∧ (a :: Fs.flatten).Nodup ∧ H a = some (.lst vs) ∧ Par3 (fun u Fi x => τ.rep K H Fi u x) vs Fs xs
  keep {K H H' F v xs} h k := by
    obtain ⟨a, vs, Fs, e, rfl, nd, g, r⟩ := h
    exact ⟨a, vs, Fs, e, rfl, nd, k a _ g (.inl (List.mem_cons_self ..)), Par3.mapP r fun u Fi x m q => τ.keep q fun b o hb z => k b o hb (z.imp (fun y => List.mem_cons_of_mem _ (List.mem_flatten.mpr ⟨Fi, m, y⟩)) id)⟩
  dom {K H F v xs} h b m := by
    obtain ⟨a, vs, Fs, e, rfl, nd, g, r⟩ := h
    rcases List.mem_cons.mp m with rfl | m
    · exact ⟨_, g, fun z => z⟩
    · obtain ⟨Fi, hF, hb⟩ := List.mem_flatten.mp m
      obtain ⟨j, hj⟩ := List.getElem?_of_mem hF
      have hl := Par3.len r
      have hjl : j < xs.length := by
        have := (List.getElem?_eq_some_iff.mp hj).1
        omega
      obtain ⟨u, F', _, hF', ru⟩ := Par3.get r (List.getElem?_eq_getElem hjl)
      rw [hj] at hF'
      obtain rfl := Option.some.inj hF'
      exact τ.dom ru b hb
section
variable {K : PySem.W.Frag} {σ σ' : L2.St} {H : Hp} {F F1 F2 Fu : List Addr} {ta tb te : TE} {v u x y : V} {i j : Int} {α β : Type} {τ : Ty α} {υ : Ty β} {Q : VK}
theorem own_lsg {xs : List α} (r : (yOwn τ).rep K H F v xs) : (yLsg τ).rep K H F v xs := by
  have hd := (yOwn τ).dom r
  obtain ⟨a, vs, Fs, e, rfl, nd, g, q⟩ := r
  exact ⟨a, vs, Fs.flatten, e, rfl, (List.nodup_cons.mp nd).1, g, fun b hb => hd b (List.mem_cons_of_mem _ hb), Par3.pr q fun u Fi x m ru => ⟨Fi, ru, fun b hb => List.mem_flatten.mpr ⟨Fi, m, hb⟩⟩⟩
theorem own_nil {p : Addr} {υ : Ty β} (r : (yLst υ).rep K H [p] (.ref p) []) : (yOwn τ).rep K H [p] (.ref p) [] := by
  obtain ⟨a, vs, e, f, g, q⟩ := r
  obtain rfl := V.ref.inj e
  cases q
  exact ⟨p, [], [], rfl, rfl, List.nodup_cons.mpr ⟨List.not_mem_nil, List.nodup_nil⟩, g, .nil⟩
theorem Par3.snoc {R : V → List Addr → α → Prop} {u : V} {Fi : List Addr} {x : α} : ∀ {vs Fs} {xs : List α}, Par3 R vs Fs xs → R u Fi x → Par3 R (vs ++ [u]) (Fs ++ [Fi]) (xs ++ [x])
  | _, _, _, .nil, h => .cons h .nil
  | _, _, _, .cons r t, h => .cons r (Par3.snoc t h)
/-- an item goes in, with cells of its own -/
theorem m_appO {xs ys : List α} {d : α} (r : (yOwn τ).rep K H F v xs) (ru : τ.rep K H Fu u d) (dj : Dj F Fu) (nu : Fu.Nodup) (hm : Mi.app xs d = some ys)
    (k : ∀ H' F', Chg F H H' → (yOwn τ).rep K H' F' v ys → Sub F F' → Sub F' (F ++ Fu) → Q .non H') : rAppend v [u] H Q := by
  obtain ⟨p, vs, Fs, rfl, rfl, nd, g, q⟩ := r
  have np : p ∉ Fu := dj p (List.mem_cons_self ..)
  have hpf := (List.nodup_cons.mp nd).1
  unfold Mi.app at hm
  split at hm
  · rename_i hz
    cases hm
    have c : Chg [p] H (upd H p (.lst (vs ++ [u]))) := Chg.wr g (fun z => z)
    have kp : ∀ {γ : Type} {ρ : Ty γ} {Fi : List Addr} {w : V} {e : γ}, ρ.rep K H Fi w e → p ∉ Fi → ρ.rep K (upd H p (.lst (vs ++ [u]))) Fi w e := fun rr hn => Ty.chg rr c fun b hb z => by
      rw [List.mem_singleton] at z; subst z; exact hn hb
    have ef : (Fs ++ [Fu]).flatten = Fs.flatten ++ Fu := by simp
    refine ⟨p, vs, u, rfl, rfl, g, Nat.lt_of_lt_of_le (by rw [(Par3.len q).1]; exact hz) line_big, k _ (p :: (Fs ++ [Fu]).flatten) (c.mono fun b hb => by rw [List.mem_singleton] at hb; subst hb; exact List.mem_cons_self ..) ⟨p, _, Fs ++ [Fu], rfl, rfl, ?_, upd_same, Par3.snoc (Par3.mapP q fun w Fi e m z => kp z fun hp => hpf (List.mem_flatten.mpr ⟨Fi, m, hp⟩)) (kp ru np)⟩ ?_ ?_⟩
    · rw [ef]
      refine List.nodup_cons.mpr ⟨fun hp => (List.mem_append.mp hp).elim hpf np, List.nodup_append.mpr ⟨(List.nodup_cons.mp nd).2, nu, fun b hb b' hb' e => ?_⟩⟩
      subst e
      exact dj b (List.mem_cons_of_mem _ hb) hb'
    · intro b hb
      rw [ef]
      rcases List.mem_cons.mp hb with rfl | hb
      · exact List.mem_cons_self ..
      · exact List.mem_cons_of_mem _ (List.mem_append_left _ hb)
    · intro b hb
      rw [ef] at hb
      rcases List.mem_cons.mp hb with rfl | hb
      · exact List.mem_append_left _ (List.mem_cons_self ..)
      · rcases List.mem_append.mp hb with hb | hb
        · exact List.mem_append_left _ (List.mem_cons_of_mem _ hb)
        · exact List.mem_append_right _ hb
  · cases hm
theorem e_appO {D : Addr} {N : Hp → Prop} {xs ys : List α} {d : α} (r : (yOwn τ).rep K H F (.ref D) xs) (ru : τ.rep K H Fu u d) (dj : Dj F Fu) (nu : Fu.Nodup) (hm : Mi.app xs d = some ys)
    (k : ∀ H' F', Chg F H H' → (yOwn τ).rep K H' F' (.ref D) ys → Sub F F' → Sub F' (F ++ Fu) → N H') : AppG D N u H := by
  have h := m_appO (Q := fun _ H' => N H') r ru dj nu hm k
  obtain ⟨l, xs', y, e, e2, g, hz, q⟩ := h
  obtain rfl := V.ref.inj e
  obtain rfl : u = y := by simpa using e2
  exact ⟨xs', g, hz, q⟩
theorem lst_nd {xs : List α} (r : (yLst τ).rep K H F v xs) : F.Nodup := by
  obtain ⟨a, vs, _, rfl, _⟩ := r
  exact List.nodup_cons.mpr ⟨List.not_mem_nil, List.nodup_nil⟩
theorem own_nd {xs : List α} (r : (yOwn τ).rep K H F v xs) : F.Nodup := by
  obtain ⟨a, vs, Fs, _, rfl, nd, _⟩ := r
  exact nd
theorem flat_apart {Fs : List (List Addr)} (nd : Fs.flatten.Nodup) {j k : Nat} {A B : List Addr} (hj : Fs[j]? = some A) (hk : Fs[k]? = some B) (hne : k ≠ j) {b : Addr} (h1 : b ∈ A) : b ∉ B := by
  induction Fs generalizing j k with
  | nil => simp at hj
  | cons G Fs ih =>
    rw [List.flatten_cons, List.nodup_append] at nd
    match j, k with
    | 0, 0 => omega
    | 0, k + 1 =>
      obtain rfl := Option.some.inj hj
      exact fun h2 => nd.2.2 b h1 b (List.mem_flatten.mpr ⟨B, List.mem_of_getElem? (show Fs[k]? = some B from hk), h2⟩) rfl
    | j + 1, 0 =>
      obtain rfl := Option.some.inj hk
      exact fun h2 => nd.2.2 b h2 b (List.mem_flatten.mpr ⟨A, List.mem_of_getElem? (show Fs[j]? = some A from hj), h1⟩) rfl
    | j + 1, k + 1 => exact ih nd.2.1 (j := j) (k := k) hj hk (by omega)
/-- an item that changes in place -/
theorem itm_O {xs : List (List β)} {x : List β} (r : (yOwn (yLst υ)).rep K H F v xs) (h : Mi.at_ xs i = some x) :
    ∃ u, tyV K "list" u H ∧ (∀ {Q : VK}, Q u H → rIxL K v (.int i) H Q) ∧ (∀ {σ : L2.St} {ta tb : TE}, Val ta σ H v → Val tb σ H (.int i) → Val (tOp (rIxL K) ta tb) σ H u) ∧
      ∀ {e : V} {d : β} {ys : List (List β)} {Q : VK}, υ.rep K H [] e d → Mi.appIn xs i d = some ys → (∀ H', Chg F H H' → (yOwn (yLst υ)).rep K H' F v ys → Q .non H') → rAppend u [e] H Q := by
  obtain ⟨a, vs, Fs, rfl, rfl, nd, g, q⟩ := r
  have hl := (Par3.len q).1
  unfold Mi.at_ at h
  obtain ⟨n, hn, hx⟩ := Mi.bnd h
  obtain ⟨u, Fi, hu, hF, ru⟩ := Par3.get q hx
  have hat : atI vs i = some u := by
    show (L2.ixN vs.length i).bind _ = _
    have e : L2.ixN vs.length i = some n := by rw [hl]; exact hn
    rw [e]; exact hu
  have k : ∀ {Q : VK}, Q u H → rIxL K (.ref a) (.int i) H Q := fun z => ⟨a, vs, i, u, rfl, rfl, .inl (.inl g), hat, z⟩
  refine ⟨u, tyv_lst ru, k, fun ha hb => val_op ha hb fun Q z => k z, fun {e d ys Q} re hm z => ?_⟩
  unfold Mi.appIn at hm
  obtain ⟨n', hn', hm⟩ := Mi.bnd hm
  obtain rfl : n = n' := Option.some.inj (hn.symm.trans hn')
  obtain ⟨row, hrow, hm⟩ := Mi.bnd hm
  obtain rfl : x = row := Option.some.inj (hx.symm.trans hrow)
  obtain ⟨zs, hz, hm⟩ := Mi.bnd hm
  obtain rfl := Option.some.inj hm
  refine m_app ru re hz fun H' c r' => z H' (c.mono fun b hb => List.mem_cons_of_mem _ (List.mem_flatten.mpr ⟨Fi, List.mem_of_getElem? hF, hb⟩)) ⟨a, vs, Fs, rfl, rfl, nd, ?_, Par3.setAt q hu hF r' fun m u' Fk x' hm' hFk rk => Ty.chg rk c fun b hb hb2 => ?_⟩
  · have ha : a ∉ Fi := fun hb => (List.nodup_cons.mp nd).1 (List.mem_flatten.mpr ⟨Fi, List.mem_of_getElem? hF, hb⟩)
    exact c.keep a _ g (.inl ha)
  · exact flat_apart (List.nodup_cons.mp nd).2 hF hFk hm' hb2 hb
end
end G

/-! ### sets of tuples of ints, up to 75 of them: asked for and added to -/
namespace L2
open PySem PySem.Spec PyProof.Rows
section
variable {P : Program} {w : World} {A : Around} {E : Value → Shared → Prop} {s : Shared} {a : Addr} {L : List (Addr × List Int)} {es : Array (Int × Value)} {ep : Nat} {t : SetTable}
structure SetB (P : Program) (w : World) (h : Heap) (a : Addr) (L : List (Addr × List Int)) (es : Array (Int × Value)) (ep : Nat) (t : SetTable) : Prop where
  obj : ∃ o, h.get? a = some o ∧ o.ExactSet ∧ o.data = .set es ep t
  rws : es.toList = rowsOf P w L
  tb : TabOk t (L.map fun p => thash P w p.2)
  ndp : (L.map (·.2)).Nodup
  tps : ∀ p ∈ L, IsT P w h p.2 p.1
  pln : t.plain = true
  ld : w.params.followText "set-order" = true ∨ t.led = true
  rm : L.length * 5 < t.mask * 3
theorem SetB.of {h : Heap} (R : SetTR P w h a L es ep t) : SetB P w h a L es ep t := ⟨R.ob, R.rows, R.tab, R.nd, R.tup, R.plain, R.led, R.room⟩
theorem SetB.small {h : Heap} (R : SetB P w h a L es ep t) (hl : L.length < 64) : SetTR P w h a L es ep t := ⟨R.obj, R.rws, R.tb, R.ndp, R.tps, R.pln, R.ld, R.rm, hl⟩
theorem SetB.sz {h : Heap} (R : SetB P w h a L es ep t) : es.size = L.length := by
  have z := congrArg List.length R.rws
  simpa [rowsOf] using z
theorem SetB.ft {h : Heap} (R : SetB P w h a L es ep t) : t.fits es.size = true := by
  have z1 := R.tb.sz
  have z2 := R.sz
  have z3 := R.rm
  rw [List.length_map] at z1
  simp only [SetTable.fits, SetTable.fill, R.tb.dm, Bool.and_eq_true, beq_iff_eq, decide_eq_true_eq]
  refine ⟨by omega, ?_⟩
  show t.place.size + 0 ≤ t.mask
  omega
theorem SetB.ent {h : Heap} (R : SetB P w h a L es ep t) {i : Nat} {p : Addr × List Int} (hp : L[i]? = some p) : es[i]? = some (thash P w p.2, Value.ref p.1) := by
  have z : es.toList[i]? = some (thash P w p.2, Value.ref p.1) := by
    rw [R.rws, rowsOf, List.getElem?_map, hp]; rfl
  rw [Array.getElem?_toList] at z; exact z
theorem SetB.noGive {h : Heap} (R : SetB P w h a L es ep t) : ¬ t.gaveWay = true := by
  rw [SetTable.gaveWay, mask_odd R.tb.mok]; decide
abbrev wy (P : Program) (w : World) (t : SetTable) (k : List Int) (c : Nat) : Nat := way t.mask (thash P w k) c
abbrev stp (P : Program) (w : World) (t : SetTable) (k : List Int) (c : Nat) : SetTable.Probe := nth t.mask (runAt t.mask (SetTable.bits (thash P w k) % (t.mask + 1)) (SetTable.bits (thash P w k))) c
theorem nth_dm (m : Nat) : ∀ (n : Nat) (p : SetTable.Probe), p.dummy = none → (nth m p n).dummy = none
  | 0, _, h => h
  | n + 1, p, h => nth_dm m n (adv m p) (by unfold adv; split <;> exact h)
/-- the search, asked by a question or by an adding (ad) -/
theorem SetB.srch (R : SetB P w s.heap a L es ep t) {x : Addr} {k : List Int} (hx : IsT P w s.heap k x) (hu : A.units < cLine) (ad : Bool) {K : Nat} (hKf : K < 10 * SetTable.turns t.mask)
    (hK : wy P w t k K ∉ t.place.toList) (hKb : ∀ c, c < K → wy P w t k c ∈ t.place.toList) {Q : SetFound → Shared → Prop}
    (yes : k ∈ L.map (·.2) → ∀ r : Option Nat, (ad = false → r.isSome = true) → Q (.there r) s) (no : k ∉ L.map (·.2) → Q (.free (wy P w t k K) false) s) :
    ∀ (f c : Nat) (st : Option SetTable.Probe), st.getD (t.probeStart (thash P w k)) = stp P w t k c → c ≤ K → K - c < f →
      (∀ (i : Nat) p, L[i]? = some p → p.2 = k → ∃ c', c ≤ c' ∧ c' < K ∧ t.place.toList[i]? = some (wy P w t k c')) → wpAny (model P w) A (setSearchFrom a (.ref x) (thash P w k) ad f st) Q E s := by
  intro f
  induction f with
  | zero => intro c st _ _ hf _; exact absurd hf (Nat.not_lt_zero _)
  | succ f ih =>
    intro c st hst hc hf hre
    obtain ⟨o, ho, hex, hd⟩ := R.obj
    rw [setSearchFrom_succ]
    refine wpAny_bind (wpAny_setState_of ho hd R.ft ?_)
    dsimp only
    refine wp_if_neg R.noGive ?_
    try refine wpAny_bind (wpAny_pure ?_)
    have sh : ∀ q, nth t.mask (stp P w t k c) q = stp P w t k (c + q) := fun q => (nth_add t.mask c _ q).symm
    have ej : ∀ q, (nth t.mask (stp P w t k c) q).j = wy P w t k (c + q) := fun q => congrArg SetTable.Probe.j (sh q)
    have eK : c + (K - c) = K := by omega
    have hh : ∀ (i : Nat) p, L[i]? = some p → (fun i => (es[i]?.map (·.1)).getD 0) i = thash P w p.2 := fun i p hp => by
      show (es[i]?.map (·.1)).getD 0 = _
      rw [R.ent hp]; rfl
    have spec := go_spec t R.tb.ris R.tb.dm (fun i => (es[i]?.map (·.1)).getD 0) (thash P w k) (10 * SetTable.turns t.mask) (K - c) (stp P w t k c) (nth_dm _ _ _ rfl) (by omega) (fun q hq => by rw [ej]; exact hKb (c + q) (by omega)) (by rw [ej, eK]; exact hK)
    rcases spec with ⟨q, i, hq, hi, _, hno, hpr⟩ | ⟨hno, hpr⟩
    · have hp1 : t.probe (fun i => (es[i]?.map (·.1)).getD 0) (thash P w k) (st.getD (t.probeStart (thash P w k))) = some (.candidate (wy P w t k (c + q)) i (stp P w t k (c + (q + 1)))) := by
        rw [hst, ← ej, ← sh]; exact hpr
      rw [hp1]
      dsimp only
      rw [ej] at hi
      have hil : i < L.length := by
        have z1 : i < t.place.toList.length := (List.getElem?_eq_some_iff.mp hi).1
        have z2 := R.tb.sz
        rw [List.length_map] at z2
        rw [Array.length_toList] at z1
        omega
      obtain ⟨p, hp⟩ : ∃ p, L[i]? = some p := ⟨L[i], List.getElem?_eq_getElem hil⟩
      have hm := List.mem_of_getElem? hp
      have hsl : t.slot (wy P w t k (c + q)) = .live i := slot_live R.tb.ris hi
      have more : wpAny (model P w) A (searchRest a (.ref x) (thash P w k) ad f es t (wy P w t k (c + q)) i (stp P w t k (c + (q + 1)))) Q E s := by
        unfold searchRest
        rw [R.ent hp]
        dsimp only
        refine wpAny_bind (wpAny_holding (wpAny_eqBool_tuple hu (R.tps p hm) hx ?_))
        refine wpAny_bind (wpAny_setState_of ho hd R.ft ?_)
        dsimp only
        by_cases hkk : p.2 = k
        · have hin := List.mem_map.mpr ⟨p, hm, hkk⟩
          cases ad with
          | true =>
            refine wp_if_pos (by simp [hkk]) ?_
            exact wpAny_pure (yes hin none fun z => by cases z)
          | false =>
            refine wp_if_neg (by simp) ?_
            try refine wpAny_bind (wpAny_pure ?_)
            rw [sameMem]
            dsimp only
            simp only [if_true, hsl, R.ent hp]
            refine wpAny_bind (wpAny_isSame_ref_self (wpAny_bind (wpAny_pure ?_)))
            simp only [if_true]
            refine wp_if_pos (by simp [hkk]) ?_
            exact wpAny_pure (yes hin (some i) fun _ => rfl)
        · refine wp_if_neg (by simp [hkk]) ?_
          try refine wpAny_bind (wpAny_pure ?_)
          rw [sameMem]
          dsimp only
          simp only [if_true, hsl, R.ent hp]
          refine wpAny_bind (wpAny_isSame_ref_self (wpAny_bind (wpAny_pure ?_)))
          simp only [if_true]
          refine wp_if_neg (by simp [hkk]) ?_
          refine ih (c + (q + 1)) _ rfl (by omega) (by omega) fun i0 p0 h0 hk0 => ?_
          obtain ⟨c', a1, a2, a3⟩ := hre i0 p0 h0 hk0
          refine ⟨c', ?_, a2, a3⟩
          rcases Nat.lt_or_ge c' (c + (q + 1)) with z | z
          · exfalso
            rcases Nat.lt_or_ge c' (c + q) with z2 | z2
            · exact hno (c' - c) i0 (by omega) (by rw [ej, show c + (c' - c) = c' by omega]; exact a3) ((hh i0 p0 h0).trans (congrArg (thash P w) hk0))
            · obtain rfl : c' = c + q := by omega
              have s0 := slot_live R.tb.ris a3
              rw [hsl] at s0
              injection s0 with s0
              rw [← s0, hp] at h0
              exact hkk ((congrArg Prod.snd (Option.some.inj h0)).trans hk0)
          · exact z
      by_cases hl : t.led = true
      · refine wp_if_neg (by simp [hl]) ?_
        try refine wpAny_bind (wpAny_pure ?_)
        exact more
      · refine wp_if_pos (by simp [hl]) ?_
        refine wpAny_bind (seen_tup hx (fun y hy => ?_) ?_)
        · obtain ⟨e, he, ee⟩ := List.mem_map.mp hy
          have he2 : e ∈ es.toList := by
            have z : e ∈ es ∧ e.1 = thash P w k := by simpa using he
            simpa using z.1
          rw [R.rws] at he2
          obtain ⟨p2, hp2, e2⟩ := List.mem_map.mp he2
          exact ⟨p2.2, p2.1, by rw [← ee, ← e2], R.tps p2 hp2⟩
        · refine wp_if_neg (by decide) ?_
          try refine wpAny_bind (wpAny_pure ?_)
          exact more
    · have hp1 : t.probe (fun i => (es[i]?.map (·.1)).getD 0) (thash P w k) (st.getD (t.probeStart (thash P w k))) = some (.empty (wy P w t k K) none) := by
        have e2 : wy P w t k K = (nth t.mask (stp P w t k c) (K - c)).j := by rw [ej, eK]
        rw [hst, e2]; exact hpr
      rw [hp1]
      dsimp only
      refine wpAny_pure (no fun hm => ?_)
      obtain ⟨p0, h0, hk0⟩ := List.mem_map.mp hm
      obtain ⟨i0, h00⟩ := List.getElem?_of_mem h0
      obtain ⟨c', a1, a2, a3⟩ := hre i0 p0 h00 hk0
      exact hno (c' - c) i0 (by omega) (by rw [ej, show c + (c' - c) = c' by omega]; exact a3) ((hh i0 p0 h00).trans (congrArg (thash P w) hk0))
theorem SetB.search (R : SetB P w s.heap a L es ep t) {x : Addr} {k : List Int} (hx : IsT P w s.heap k x) (hu : A.units < cLine) (ad : Bool) {Q : SetFound → Shared → Prop}
    (yes : k ∈ L.map (·.2) → ∀ r : Option Nat, (ad = false → r.isSome = true) → Q (.there r) s)
    (no : ∀ K, k ∉ L.map (·.2) → wy P w t k K ∉ t.place.toList → (∀ c, c < K → wy P w t k c ∈ t.place.toList) → Q (.free (wy P w t k K) false) s) : wpAny (model P w) A (setSearch a (.ref x) (thash P w k) ad) Q E s := by
  have hr := R.rm
  obtain ⟨K, hKf, hK, hKb⟩ := R.tb.first (by rw [List.length_map]; omega) (thash P w k)
  have hbig : K < 100000 := by
    have : 10 * SetTable.turns t.mask ≤ 1420 := by
      unfold SetTable.turns
      rcases R.tb.mok with e | e | e <;> omega
    omega
  unfold setSearch
  refine R.srch hx hu ad hKf hK hKb yes (fun hn => no K hn hK hKb) 100000 0 none rfl (Nat.zero_le _) (by omega) fun i p hp hk => ?_
  have hi : (L.map fun p => thash P w p.2)[i]? = some (thash P w k) := by rw [List.getElem?_map, hp, ← hk]; rfl
  have hil : i < t.place.toList.length := by
    have z1 : i < L.length := (List.getElem?_eq_some_iff.mp hp).1
    have z2 := R.tb.sz
    rw [List.length_map] at z2
    rw [Array.length_toList]; omega
  have hj := List.getElem?_eq_getElem hil
  obtain ⟨c, hc, e⟩ := R.tb.before hK hi hj
  exact ⟨c, Nat.zero_le _, hc, hj.trans (congrArg some e.symm)⟩
/-- adding to a table that has room for 128 -/
theorem SetB.addBig (R : SetB P w s.heap a L es ep t) {x : Addr} {k : List Int} (hx : IsT P w s.heap k x) (hu : A.units < cLine) (hm7 : t.mask = 127) (hfew : L.length + 1 < 76) {Q : Bool → Shared → Prop}
    (hQ : ∀ b h' L' es' ep' t', Heap.SameBut a s.heap h' → SetB P w h' a L' es' ep' t' → (k ∈ L.map (·.2) → L' = L) → (k ∉ L.map (·.2) → L'.Perm ((x, k) :: L)) → Q b { s with heap := h' }) :
    wpAny (model P w) A (setAddHashed a (.ref x) (thash P w k)) Q E s := by
  obtain ⟨o, ho, hex, hd⟩ := R.obj
  have hsl := R.sz
  unfold setAddHashed
  refine wpAny_holding ?_
  rw [show (100000 : Nat) = 99999 + 1 from rfl, setAddHashedIn_succ]
  refine wpAny_bind (wpAny_setState_of ho hd R.ft ?_)
  dsimp only
  refine wp_if_neg (by simp [byScan, Value.scannable]) ?_
  try refine wpAny_bind (wpAny_pure ?_)
  refine wpAny_bind (R.search hx hu true (fun hm r _ => ?_) fun K hm hK hb => ?_)
  · dsimp only
    exact wpAny_pure (hQ false s.heap L es ep t (Heap.SameBut.refl a s.heap) R (fun _ => rfl) fun z => absurd hm z)
  · dsimp only
    refine wpAny_bind (wpAny_setState_of ho hd R.ft ?_)
    dsimp only
    obtain ⟨q1, q2, q3, q4, q5, q6, q7, q8, q9⟩ := R.tb.put hK hb
    have hp1 : (t.put (wy P w t k K)).1.plain = true := by rw [q6]; exact R.pln
    generalize hpt : t.put (wy P w t k K) = pt at q1 q3 q4 q5 q6 q7 q8 q9 hp1 ⊢
    obtain ⟨t1, p⟩ := pt
    dsimp only at q1 q3 q4 q5 q6 q7 q8 q9 hp1 ⊢
    subst q1
    first
      | (refine wpAny_bind ?_; refine wp_if_pos hp1 ?_; refine hashBy_tup hx ?_)
      | refine wp_if_pos hp1 (wpAny_bind (hashBy_tup hx ?_))
    simp only [if_true]
    have hin : (SetTable.insertAt es (SetTable.below t.place (wy P w t k K)) (thash P w k, Value.ref x)).toList = rowsOf P w (L.take (SetTable.below t.place (wy P w t k K)) ++ (x, k) :: L.drop (SetTable.below t.place (wy P w t k K))) := by
      rw [SetTable.toList_insertAt, rows_put, R.rws]
    generalize hpp : SetTable.below t.place (wy P w t k K) = p at q2 q3 hin ⊢
    have pm := put_perm L p (x, k)
    have hlen : (L.take p ++ (x, k) :: L.drop p).length = L.length + 1 := pm.length_eq
    have hhs : (L.take p ++ (x, k) :: L.drop p).map (fun p => thash P w p.2) = (L.map fun p => thash P w p.2).take p ++ thash P w k :: (L.map fun p => thash P w p.2).drop p := by
      rw [List.map_append, List.map_cons, List.map_take, List.map_drop]
    rw [← hhs] at q3
    have nd1 : ((L.take p ++ (x, k) :: L.drop p).map (·.2)).Nodup := (pm.map (·.2)).nodup_iff.mpr (List.nodup_cons.mpr ⟨hm, R.ndp⟩)
    have hes : (SetTable.insertAt es p (thash P w k, Value.ref x)).size = L.length + 1 := by
      have z := congrArg List.length hin
      rw [rowsOf, Array.length_toList, List.length_map, hlen] at z
      exact z
    generalize SetTable.insertAt es p (thash P w k, Value.ref x) = es1 at hin hes ⊢
    generalize L.take p ++ (x, k) :: L.drop p = L1 at pm hlen q3 nd1 hin
    refine wpAny_bind (wpAny_storeSet_of ho hd ?_ (by rw [hes, sizeLine_eq]; omega))
    have sb : Heap.SameBut a s.heap (s.heap.update a (Obj.putSet es1 t1)) := Heap.SameBut.update ..
    have ho1 := store_at (es' := es1) (t' := t1) ho hd
    generalize s.heap.update a (Obj.putSet es1 t1) = h1 at sb ho1 ⊢
    have tup1 : ∀ p ∈ L1, IsT P w h1 p.2 p.1 := fun p hp => by
      rcases List.mem_cons.mp (pm.mem_iff.mp hp) with e | hp
      · rw [e]; exact isT_same hx ho hd sb
      · exact isT_same (R.tps p hp) ho hd sb
    have hf : ¬ t1.tooFull = true := fun z => by
      unfold SetTable.tooFull at z
      rw [decide_eq_true_eq, q9, List.length_map, q4, hm7] at z
      omega
    first
      | refine wp_if_neg (by simp [hf]) ?_
      | (refine wpAny_bind ?_; refine wp_if_neg (by simp [hf]) ?_; refine wpAny_pure ?_)
    refine wpAny_pure (hQ true h1 L1 es1 (ep + 1) t1 sb ⟨⟨_, ho1, ⟨hex.1, hex.2.1, hex.2.2⟩, rfl⟩, hin, q3, nd1, tup1, hp1, by rw [q5]; exact R.ld, ?_⟩ (fun z => absurd z hm) fun _ => pm)
    rw [hlen, q4, hm7]; omega
theorem SetB.add (R : SetB P w s.heap a L es ep t) {x : Addr} {k : List Int} (hx : IsT P w s.heap k x) (hu : A.units < cLine) (hfew : L.length + 1 < 76) {Q : Bool → Shared → Prop}
    (hQ : ∀ b h' L' es' ep' t', Heap.SameBut a s.heap h' → SetB P w h' a L' es' ep' t' → (k ∈ L.map (·.2) → L' = L) → (k ∉ L.map (·.2) → L'.Perm ((x, k) :: L)) → Q b { s with heap := h' }) :
    wpAny (model P w) A (setAddHashed a (.ref x) (thash P w k)) Q E s := by
  by_cases h : L.length + 1 < 64
  · exact add_at (R.small (by omega)) hx hu h fun b h' L' es' ep' t' sb R' => hQ b h' L' es' ep' t' sb (.of R')
  · refine R.addBig hx hu ?_ hfew hQ
    have z := R.rm
    rcases R.tb.mok with e | e | e <;> omega
end
end L2

namespace L2
open PySem PySem.Spec PyProof.Rows
structure SetB0 (P : Program) (w : World) (h : Heap) (a : Addr) (L : List (Addr × List Int)) : Prop where
  has : ∃ (es : Array (Int × Value)) (ep : Nat) (t : SetTable), (∃ o, h.get? a = some o ∧ o.ExactSet ∧ o.data = .set es ep t) ∧ es.toList = rowsOf P w L ∧ TabOk t (L.map fun p => thash P w p.2) ∧ (L.map (·.2)).Nodup ∧ t.plain = true ∧
    (w.params.followText "set-order" = true ∨ t.led = true) ∧ L.length * 5 < t.mask * 3
def SetBO (P : Program) (w : World) (a : Addr) (L : List (Addr × List Int)) : HO := .ext fun h => SetB0 P w h a L
section
variable {P : Program} {w : World} {h : Heap} {a : Addr} {L : List (Addr × List Int)} {es : Array (Int × Value)} {ep : Nat} {t : SetTable}
theorem SetB.bare (R : SetB P w h a L es ep t) : SetB0 P w h a L := ⟨es, ep, t, R.obj, R.rws, R.tb, R.ndp, R.pln, R.ld, R.rm⟩
theorem SetB0.whole (R : SetB0 P w h a L) (ht : ∀ p ∈ L, IsT P w h p.2 p.1) : ∃ es ep t, SetB P w h a L es ep t := by
  obtain ⟨es, ep, t, x1, x2, x3, x4, x5, x6, x7⟩ := R.has
  exact ⟨es, ep, t, x1, x2, x3, x4, ht, x5, x6, x7⟩
theorem setBO_new {H : Hp} (R : SetB0 P w h a L) : ObjOk P w H h a (SetBO P w a L) := by
  have ⟨es, ep, t, ⟨o, ho, _⟩, _⟩ := R.has
  refine ⟨R, ⟨o, ho⟩, fun g1 g2 p k => ?_⟩
  obtain ⟨es', ep', t', ⟨o', ho', r'⟩, q'⟩ := SetB0.has p
  exact ⟨es', ep', t', ⟨o', k o' ho', r'⟩, q'⟩
end
section
variable {X : Cx}
theorem setBO_get {pins : List (Addr × Obj)} {σ : St} {H : Hp} {s : Shared} {a : Addr} {L : List (Addr × List Int)} (I : Inv X pins σ H s) (ha : H a = some (SetBO X.prog X.w a L)) (ht : ∀ p ∈ L, SqT X.K H p.1 (p.2.map V.int)) : ∃ es ep t, SetB X.prog X.w s.heap a L es ep t :=
  SetB0.whole (I.hok a _ ha).1 fun p hp => I.isT (ht p hp)
/-- set() -/
def rSetB0 (P : Program) (w : World) : List V → Hp → VK → Prop := fun xs H Q => xs = [] ∧ ∀ p, H p = none → Q (.ref p) (upd H p (SetBO P w p []))
theorem cr_setB0 : CallR X (.type "set") (rSetB0 X.prog X.w) := by
  intro pins s σ H xs us Q I r h
  obtain ⟨rfl, q⟩ := h
  cases r
  refine setR_new fun _ => ?_
  have nw := (SetB.of (setTR_fresh (P := X.prog) (w := X.w) (h := s.heap.push { cls := .type "set", dict := none, data := .set #[] 0 (.fresh 0 0 (!X.w.params.followText "set-order")) }) (a := s.heap.objs.size) (Heap.get?_push_size _ rfl))).bare
  exact ⟨.ref _, upd H s.heap.objs.size (SetBO X.prog X.w s.heap.objs.size []), I.laid (t' := s.toks) (fun b u e => Heap.get?_push_of_some _ e) (Nat.le_refl _) (setBO_new nw), rfl, q _ (I.hok.fresh (Nat.le_refl _))⟩
theorem B_find {P : Program} {w : World} {A : Around} {E : Value → Shared → Prop} {s : Shared} {a : Addr} {L : List (Addr × List Int)} {es : Array (Int × Value)} {ep : Nat} {t : SetTable} (R : SetB P w s.heap a L es ep t) {x : Addr} {k : List Int} (hx : IsT P w s.heap k x) (hu : A.units < cLine) {Q : Option Nat → Shared → Prop}
    (h : ∀ r : Option Nat, r.isSome = decide (k ∈ L.map (·.2)) → Q r s) : wpAny (model P w) A (setFind a (.ref x) (thash P w k)) Q E s := by
  obtain ⟨o, ho, hex, hd⟩ := R.obj
  unfold setFind setFindIn
  refine wpAny_bind (wpAny_setState_of ho hd R.ft ?_)
  dsimp only
  refine wp_if_neg (by simp [byScan, Value.scannable]) ?_
  try refine wpAny_bind (wpAny_pure ?_)
  refine wpAny_bind (R.search hx hu false (fun hm r hr => ?_) fun K hm _ _ => ?_)
  · dsimp only
    exact wpAny_pure (h r (by rw [hr rfl, decide_eq_true hm]))
  · dsimp only
    exact wpAny_pure (h none (by rw [decide_eq_false hm]; rfl))
/-- t in s -/
def rBIn (K : PySem.W.Frag) (P : Program) (w : World) : V → V → Hp → VK → Prop := fun x y H Q => ∃ (b a : Addr) (k : List Int) (L : List (Addr × List Int)), x = V.ref b ∧ y = V.ref a ∧ SqT K H b (k.map V.int) ∧ H a = some (SetBO P w a L) ∧ (∀ p ∈ L, SqT K H p.1 (p.2.map V.int)) ∧ Q (.bl (decide (k ∈ L.map (·.2)))) H
theorem op_bin (hu : X.A.units + 64 < cLine) : OpR X (compareOp .In) (rBIn X.K X.prog X.w) := by
  intro pins s σ H x y v u Q I rx ry h
  obtain ⟨b, a, k, L, rfl, rfl, hb, ha, ht, q⟩ := h
  cases rx
  cases ry
  obtain ⟨es, ep, t, R⟩ := setBO_get I ha ht
  have hx := I.isT hb
  obtain ⟨o, ho, hex, hd⟩ := R.obj
  have hT : s.TypeIs (.ref a) "set" := ⟨o, ho, hex.1⟩
  show wpAny _ _ (do return Value.bool (← contains (.ref a) (.ref b))) _ _ s
  refine wpAny_bind ?_
  unfold contains
  try with_reducible refine wpAny_holding ?_
  refine wpAny_bind (wpAny_specialOf hT F.slot_set_contains.lookup ?_)
  show wpAny _ _ (if (some (Value.builtin "set.__contains__") == some Value.none) = true then _ else _) _ _ s
  rw [if_neg (by rw [beq_builtin_none]; exact Bool.false_ne_true)]
  refine wpAny_bind (wpAny_callSpecialUnlessNone?_slot (name := Str.ofString "__contains__") hT F.slot_set_contains (wpAny_call_entry F.slot_set_contains hT entry_set_contains ?_ (F.args_set_contains_2 _ _)))
  unfold Builtin.«frozenset.__contains__» Builtin.Frozenset.oneOther
  simp only [List.isEmpty_nil, bind_assoc]
  unfold Builtin.Frozenset.addrOf Builtin.Frozenset.withSetAsKey setContains
  refine wpAny_bind (wpAny_pure ?_)
  try dsimp only
  refine wpAny_bind (wpAny_pure ?_)
  try dsimp only
  refine wpAny_bind (wpAny_tryCatch ?_)
  refine wpAny_holding ?_
  refine wpAny_bind (wpAny_pyHash_tuple (by show X.A.units + _ < cLine; omega) hx ?_)
  have fin : ∀ r : Option Nat, r.isSome = decide (k ∈ L.map (·.2)) → Q (.bl r.isSome) H := fun r e => by rw [e]; exact q
  refine wpAny_bind (B_find (s := { s with toks := s.toks + (k.length + 1) }) R hx (by show X.A.units + _ < cLine; omega) fun r hr => ?_)
  refine wpAny_pure ?_
  show wpAny _ _ (ret (Value.bool r.isSome)) _ _ _
  exact wpAny_pure ⟨_, rfl, wpAny_truthy_bool (wpAny_pure ⟨.bl r.isSome, H, I.tok _, rfl, fin r hr⟩)⟩
/-- s.add(t) -/
def rBAdd (K : PySem.W.Frag) (P : Program) (w : World) : V → List V → Hp → VK → Prop := fun x xs H Q => ∃ (a b : Addr) (k : List Int) (L : List (Addr × List Int)), x = V.ref a ∧ xs = [V.ref b] ∧ SqT K H b (k.map V.int) ∧ H a = some (SetBO P w a L) ∧ (∀ p ∈ L, SqT K H p.1 (p.2.map V.int)) ∧ L.length + 1 < 76 ∧
  ∀ L', (k ∈ L.map (·.2) → L' = L) → (k ∉ L.map (·.2) → L'.Perm ((b, k) :: L)) → Q .non (upd H a (SetBO P w a L'))
theorem mt_badd (hu : X.A.units + 64 < cLine) : MtR X "set.add" (rBAdd X.K X.prog X.w) := by
  intro pins s σ H x xs v us Q I rx rxs h
  obtain ⟨a, b, k, L, rfl, rfl, hb, ha, ht, hf, q⟩ := h
  cases rx
  cases rxs with
  | cons ry rt =>
    cases rt
    cases ry
    obtain ⟨es, ep, t, R⟩ := setBO_get I ha ht
    have hx := I.isT hb
    obtain ⟨o, ho, hex, hd⟩ := R.obj
    have hT : s.TypeIs (.ref a) "set" := ⟨o, ho, hex.1⟩
    refine wpAny_call_entry F.slot_set_add hT F.entry_set_add ?_ (F.args_set_add_2 _ _)
    unfold Builtin.«set.add» Builtin.Frozenset.oneOther
    simp only [List.isEmpty_nil, bind_assoc]
    unfold Builtin.Frozenset.addrOf setAdd
    refine wpAny_bind (wpAny_pure ?_)
    try dsimp only
    refine wpAny_bind (wpAny_pure ?_)
    try dsimp only
    refine wpAny_bind ?_
    refine wpAny_holding ?_
    refine wpAny_bind (wpAny_pyHash_tuple (by show X.A.units + _ < cLine; omega) hx ?_)
    refine SetB.add (s := { s with toks := s.toks + (k.length + 1) }) R hx (by show X.A.units + _ < cLine; omega) hf fun b' h' L' es' ep' t' sb R' c1 c2 => ?_
    show wpAny _ _ (ret Value.none) _ _ _
    have he : ∃ u, h'.get? a = some u := by
      obtain ⟨o', ho', _⟩ := R'.obj
      exact ⟨o', ho'⟩
    exact wpAny_pure ⟨_, rfl, .non, upd H a (SetBO X.prog X.w a L'), I.write (e := a) (t' := s.toks + (k.length + 1)) (by rw [ha]; trivial) (.inl rfl) (fun c u hc hu => (sb.2 c hc).trans hu) he (setBO_new R'.bare), rfl, q L' c1 c2⟩
def tBAdd (K : PySem.W.Frag) (P : Program) (w : World) (to : TE) (t : TA) : TE := fun σ H Q => to σ H fun x H1 => (∃ a L, x = V.ref a ∧ H1 a = some (SetBO P w a L)) ∧ t σ H1 fun xs H2 => rBAdd K P w x xs H2 Q
variable {o e : Expr} {es : List Expr} {to : TE} {t : TA} {apos cpos : Pos}
theorem pe_badd (hu : X.A.units + 64 < cLine) (ho : PE X o to) (ha : PA X (e :: es) t)
    (hbase : attributeBase o "add" X.env (eval o X.env) = eval o X.env := by rfl)
    (hfew : ((backTo cpos (starEach (e :: es) X.env)).all (fun x => !x.1) && (backToKw cpos (keywordEach [] X.env)).all (fun x => x.1.isSome)
      && decide ((e :: es).length + ([] : List Keyword).length + (if ([] : List Keyword).isEmpty then 0 else 1) < 30)) = true := by rfl)
    (hline : (apos.endLine == cpos.line) = true := by rfl) (hs : starEach (e :: es) X.env = (false, eval e X.env) :: starEach es X.env := by rfl) (hplain : (backTo cpos (starEach es X.env)).any (·.1) = false := by rfl) :
    PE X (.Call (.Attribute o "add" apos) (e :: es) [] cpos) (tBAdd X.K X.prog X.w to t) := by
  refine ⟨fun pins s σ H Q I h => ?_⟩
  refine wpAny_Call_method_late hbase hfew hline rfl (thn (ho.run pins s σ H _ I h) fun v s1 ⟨x, H1, I1, r1, ty, q1⟩ => ?_)
  obtain ⟨a, L, rfl, hka⟩ := ty
  cases r1
  obtain ⟨es0, ep, tt, ⟨ob, hob, hex, hd⟩, _⟩ := SetB0.has (I1.hok a _ hka).1
  have hT : s1.TypeIs (.ref a) "set" := ⟨ob, hob, hex.1⟩
  refine ⟨"set", "set.add", F.plainAttrs_set, F.slot_set_add, F.type_set_add, hT, fun b hb => by injection hb with hb; subst hb; exact ⟨ob, hob, hex.2.1⟩, ?_⟩
  have hA := ha.run cpos pins s1 σ H1 _ I1 q1
  rw [hs] at hA ⊢
  refine Calls.callWith_builtin (by show (false || (backTo cpos (starEach es X.env)).any (·.1)) = false; rw [hplain] <;> rfl) (Calls.evalArgs_plain ?_)
  exact thn hA fun us s2 ⟨vs, H2, I2, r2, q2⟩ => mt_badd hu pins s2 σ H2 (.ref a) vs (.ref a) us Q I2 rfl r2 q2
end
end L2

namespace L2
open PySem PySem.Spec PyProof.Rows
def PrAt (K : PySem.W.Frag) (H : Hp) (x : V) (d : Int × Int) : Prop := ∃ t, x = V.ref t ∧ SqT K H t [.int d.1, .int d.2]
/-- sorted(xs), xs a list of pairs of ints -/
def rSortP (K : PySem.W.Frag) : List V → Hp → VK → Prop := fun vs H Q => ∃ (a : Addr) (xs : List V) (ds : List (Int × Int)), vs = [V.ref a] ∧ SqL K H a xs ∧ Paired (PrAt K H) xs ds ∧
  ∀ ys es p, Paired (PrAt K H) ys es → es.Perm ds → es.Pairwise (fun a b => Mi.leP a b = true) → H p = none → Q (.ref p) (upd H p (.lst ys))
section
variable {X : Cx} {pins : List (Addr × Obj)} {σ : St} {H : Hp} {s : Shared}
theorem prAt_inj (I : Inv X pins σ H s) {x : V} {d e : Int × Int} (h1 : PrAt X.K H x d) (h2 : PrAt X.K H x e) : d = e := by
  obtain ⟨t, rfl, s1⟩ := h1
  obtain ⟨t', e2, s2⟩ := h2
  obtain rfl := V.ref.inj e2
  have z := I.tuple_inj s1 s2
  simp only [List.cons.injEq, V.int.injEq, and_true] at z
  exact Prod.ext z.1 z.2
open Classical in
noncomputable def prOf (K : PySem.W.Frag) (H : Hp) (u : V) : Int × Int := if h : ∃ d, PrAt K H u d then h.choose else (0, 0)
theorem prOf_eq (I : Inv X pins σ H s) {x : V} {d : Int × Int} (r : PrAt X.K H x d) : prOf X.K H x = d := by
  have h : ∃ d, PrAt X.K H x d := ⟨d, r⟩
  unfold prOf
  rw [dif_pos h]
  exact prAt_inj I h.choose_spec r
theorem prs_map (I : Inv X pins σ H s) {vs : List V} {xs : List (Int × Int)} (q : Paired (PrAt X.K H) vs xs) : vs.map (prOf X.K H) = xs := by
  induction q with
  | nil => rfl
  | cons r t ih => rw [List.map_cons, prOf_eq I r, ih]
theorem prs_back (I : Inv X pins σ H s) {vs : List V} (h : ∀ u ∈ vs, ∃ d, PrAt X.K H u d) : Paired (PrAt X.K H) vs (vs.map (prOf X.K H)) := by
  induction vs with
  | nil => exact .nil
  | cons u vs ih =>
    obtain ⟨d, hd⟩ := h u (List.mem_cons_self ..)
    exact .cons (by rw [prOf_eq I hd]; exact hd) (ih fun u' m => h u' (List.mem_cons_of_mem _ m))
theorem prs_mem {α : Type} {R : V → α → Prop} {vs : List V} {xs : List α} (q : Paired R vs xs) : ∀ u ∈ vs, ∃ d, R u d := by
  induction q with
  | nil => exact fun u m => nomatch m
  | cons r t ih =>
    intro u m
    rcases List.mem_cons.mp m with rfl | m
    · exact ⟨_, r⟩
    · exact ih u m
theorem leP_iff {a b : Int × Int} : Mi.leP a b = true ↔ (a.1 < b.1 ∨ (a.1 = b.1 ∧ a.2 ≤ b.2)) := by unfold Mi.leP; exact decide_eq_true_iff
theorem cr_sortP : CallR X (.builtin "sorted") (rSortP X.K) := by
  intro pins s σ H vs us Q I r h
  obtain ⟨a, xs, ds, rfl, hsq, hx, q⟩ := h
  have hd := prs_mem hx
  obtain ⟨its, rv, hl, hz⟩ := I.list hsq
  obtain ⟨u, rfl, ru⟩ := vals1 r
  obtain rfl : u = Value.ref a := ru
  obtain ⟨e1, e2⟩ := refs_back rv fun x m => by
    obtain ⟨d, t, e, _⟩ := hd x m
    exact ⟨t, e⟩
  refine SrtO.sorted_pairsO (k := fun u => prOf X.K H (backV u)) hl.isList (by rw [← rv.length]; exact hz) (fun v hv => ?_) fun h' d out h1 h2 kp hd' hn => ?_
  · obtain ⟨t, rfl⟩ := e2 v hv
    have hm : V.ref t ∈ xs := by rw [e1]; exact List.mem_map.mpr ⟨_, hv, rfl⟩
    obtain ⟨d, hp⟩ := hd _ hm
    have ep : prOf X.K H (backV (Value.ref t)) = d := prOf_eq I hp
    obtain ⟨t', e, ht⟩ := hp
    cases e
    obtain ⟨its2, r2, ⟨o, ho, hc, n, hd2⟩, _⟩ := I.tuple ht
    obtain ⟨u1, u2, rfl, ri, rj⟩ := vals2 r2
    obtain ⟨t1, rfl⟩ := ri
    obtain ⟨t2, rfl⟩ := rj
    refine ⟨t, o, t1, t2, n, rfl, ho, hc, ?_⟩
    rw [ep]; exact hd2
  · have h3 : ∀ u ∈ out, ∃ a, u = Value.ref a := fun u hu => e2 u (h2.perm.mem_iff.mp hu)
    obtain ⟨n, hn⟩ := hn
    have hb : (out.map backV).Perm xs := by rw [e1]; exact h2.perm.map backV
    refine ⟨.ref d, upd H d (.lst (out.map backV)), I.laid (t' := s.toks) kp hd' ⟨?_, out, n, vals_back h3, hn⟩, rfl, q _ _ d (prs_back I fun u m => hd u (hb.mem_iff.mp m)) ?_ ?_ (I.hok.fresh hd')⟩
    · rw [hb.length_eq]; exact hz
    · rw [← prs_map I hx]; exact hb.map _
    · rw [List.pairwise_map, List.pairwise_map]
      refine List.Pairwise.imp (fun {u u'} z => ?_) h1
      rw [leP_iff]
      have := SrtO.lexB_no.mp z
      omega
end
end L2
namespace G
open PySem PySem.Spec PyProof.Rows L2
abbrev yPair : Ty (Int × Int) := yTup (sCons yInt (sOne yInt))
section
variable {X : Cx} {P : Program} {w : World} {K : PySem.W.Frag} {σ σ' : L2.St} {H : Hp} {F F1 F2 Fu : List Addr} {ta tb te to : TE} {v u x y : V} {i j : Int} {Q : VK}
theorem pair_sq {d : Int × Int} (r : yPair.rep K H F v d) : F = [] ∧ ∃ a, v = .ref a ∧ SqT K H a [.int d.1, .int d.2] := by
  obtain ⟨a, vs, rfl, s, q⟩ := r
  obtain ⟨v1, ws, F1, F2, rfl, rfl, q1, q2⟩ := q
  obtain ⟨v2, rfl, q2⟩ := q2
  obtain ⟨rfl, rfl⟩ := q1
  obtain ⟨rfl, rfl⟩ := q2
  exact ⟨rfl, a, rfl, s⟩
theorem pair_mk {a : Addr} {d : Int × Int} (s : SqT K H a [.int d.1, .int d.2]) : yPair.rep K H [] (.ref a) d := ⟨a, _, rfl, s, _, _, [], [], rfl, rfl, ⟨rfl, rfl⟩, _, rfl, rfl, rfl⟩
/-! ### sorted pairs -/
theorem cl_sortP {K : PySem.W.Frag} (e : X.K = K := by rfl) : CallR X (.builtin "sorted") (rSortP K) := by subst e; exact cr_sortP
theorem leP_uniq : ∀ {xs ys : List (Int × Int)}, xs.Perm ys → xs.Pairwise (fun a b => Mi.leP a b = true) → ys.Pairwise (fun a b => Mi.leP a b = true) → xs = ys
  | [], ys, p, _, _ => p.nil_eq
  | x :: xs, [], p, _, _ => absurd p.length_eq (by simp)
  | x :: xs, y :: ys, p, h1, h2 => by
    have hx := List.pairwise_cons.mp h1
    have hy := List.pairwise_cons.mp h2
    have e : x = y := by
      have a1 : y ∈ x :: xs := p.mem_iff.mpr (List.mem_cons_self ..)
      have a2 : x ∈ y :: ys := p.mem_iff.mp (List.mem_cons_self ..)
      rcases List.mem_cons.mp a1 with z | z
      · exact z.symm
      · rcases List.mem_cons.mp a2 with q | q
        · exact q
        · have b1 := leP_iff.mp (hx.1 y z)
          have b2 := leP_iff.mp (hy.1 x q)
          exact Prod.ext (by omega) (by omega)
    subst e
    rw [leP_uniq (List.Perm.cons_inv p) hx.2 hy.2]
theorem sortP_pw (xs : List (Int × Int)) : (Mi.sortP xs).Pairwise (fun a b => Mi.leP a b = true) :=
  List.pairwise_mergeSort (le := Mi.leP) (fun a b c h1 h2 => by rw [leP_iff] at *; omega) (fun a b => by rw [Bool.or_eq_true, leP_iff, leP_iff]; omega) xs
theorem pair_at {d : Int × Int} : yPair.rep K H [] u d ↔ PrAt K H u d := by
  constructor
  · intro r
    obtain ⟨_, a, e, s⟩ := pair_sq r
    exact ⟨a, e, s⟩
  · rintro ⟨a, rfl, s⟩
    exact pair_mk s
theorem w_sortedP {xs : List (Int × Int)} (r : (yLst yPair).rep K H F v xs) (k : ∀ p H', H p = none → Chg [] H H' → (yLst yPair).rep K H' [p] (.ref p) (Mi.sortP xs) → Q (.ref p) H') : rSortP K [v] H Q := by
  obtain ⟨a, vs, rfl, s, q⟩ := lst_sq r
  refine ⟨a, vs, xs, rfl, s, Paired.mapP q fun _ _ z => pair_at.mp z, fun ys es p hp pm so np => ?_⟩
  have e : es = Mi.sortP xs := leP_uniq (pm.trans (List.mergeSort_perm _ _).symm) so (sortP_pw xs)
  subst e
  exact k p _ np (Chg.new np) ⟨p, ys, rfl, rfl, upd_same, Paired.mapP hp fun _ _ z => Ty.ex (pair_at.mpr z) (Chg.new np)⟩
/-! ### sets of pairs -/
def ySetP (P : Program) (w : World) : Ty (List (Int × Int)) where
  rep K H F v xs := ∃ a L, v = .ref a ∧ F = [a] ∧ H a = some (SetBO P w a L) ∧ (∀ p ∈ L, SqT K H p.1 (p.2.map V.int)) ∧ L.length = xs.length ∧ ∀ k : Int × Int, [k.1, k.2] ∈ L.map (·.2) ↔ k ∈ xs
  keep {K H H' F v xs} h k := by
    obtain ⟨a, L, e, rfl, g, t, l, m⟩ := h
    exact ⟨a, L, e, rfl, k a _ g (.inl (List.mem_singleton.mpr rfl)), fun p hp => SqT.keeps (t p hp) fun b o hb z => k b o hb (.inr z), l, m⟩
  dom {K H F v xs} h b m := by
    obtain ⟨a, L, e, rfl, g, _⟩ := h
    rw [List.mem_singleton] at m; subst m
    exact ⟨_, g, fun z => z⟩
theorem cl_setP0 {P : Program} {w : World} (e : X.prog = P := by rfl) (e2 : X.w = w := by rfl) : CallR X (.type "set") (rSetB0 P w) := by subst e e2; exact cr_setB0
theorem w_setP0 (k : ∀ p H', H p = none → Chg [] H H' → (ySetP P w).rep K H' [p] (.ref p) [] → Q (.ref p) H') : rSetB0 P w [] H Q := ⟨rfl, fun p np => k p _ np (Chg.new np) ⟨p, [], rfl, rfl, upd_same, (fun q hq => absurd hq List.not_mem_nil), rfl, (fun k => ⟨fun z => absurd z List.not_mem_nil, fun z => absurd z List.not_mem_nil⟩)⟩⟩
theorem op_inP {K : PySem.W.Frag} {P : Program} {w : World} (hu : X.A.units + 64 < cLine) (e0 : X.K = K := by rfl) (e : X.prog = P := by rfl) (e2 : X.w = w := by rfl) : OpR X (compareOp .In) (rBIn K P w) := by subst e0 e e2; exact op_bin hu
theorem w_inP {xs : List (Int × Int)} {d : Int × Int} (r : (ySetP P w).rep K H F v xs) (ru : yPair.rep K H Fu u d) (k : Q (.bl (xs.contains d)) H) : rBIn K P w u v H Q := by
  obtain ⟨a, L, rfl, rfl, g, t, l, m⟩ := r
  obtain ⟨_, b, rfl, s⟩ := pair_sq ru
  refine ⟨b, a, [d.1, d.2], L, rfl, rfl, s, g, t, ?_⟩
  have e : decide ([d.1, d.2] ∈ L.map (·.2)) = xs.contains d := by
    rw [List.contains_eq_mem]
    exact decide_eq_decide.mpr (m d)
  rw [e]; exact k
theorem w_badd {ts : TA} (h : to σ H fun x H1 => (∃ a L, x = V.ref a ∧ H1 a = some (SetBO P w a L)) ∧ ts σ H1 fun xs H2 => rBAdd K P w x xs H2 Q) : tBAdd K P w to ts σ H Q := h
theorem tyv_setP {xs : List (Int × Int)} (r : (ySetP P w).rep K H F v xs) : ∃ a L, v = V.ref a ∧ H a = some (SetBO P w a L) := by
  obtain ⟨a, L, rfl, rfl, g, _⟩ := r
  exact ⟨a, L, rfl, g⟩
theorem m_saddP {xs ys : List (Int × Int)} {d : Int × Int} (r : (ySetP P w).rep K H F v xs) (ru : yPair.rep K H Fu u d) (hm : Mi.saddP xs d = some ys) (k : ∀ H', Chg F H H' → (ySetP P w).rep K H' F v ys → Q .non H') : rBAdd K P w v [u] H Q := by
  obtain ⟨a, L, rfl, rfl, g, t, l, m⟩ := r
  obtain ⟨_, b, rfl, s⟩ := pair_sq ru
  unfold Mi.saddP at hm
  split at hm
  · rename_i hz
    obtain rfl := Option.some.inj hm
    refine ⟨a, b, [d.1, d.2], L, rfl, rfl, s, g, t, by omega, fun L' c1 c2 => ?_⟩
    have c : Chg [a] H (upd H a (SetBO P w a L')) := Chg.wr g (fun z => z)
    have kt : ∀ {b' : Addr} {vs : List V}, SqT K H b' vs → SqT K (upd H a (SetBO P w a L')) b' vs := fun sq => SqT.keeps sq fun b o hb z => c.keep b o hb (.inr z)
    by_cases hc : d ∈ xs
    · have e := c1 ((m d).mpr hc)
      rw [if_pos (show xs.contains d = true by rw [List.contains_eq_mem]; exact decide_eq_true hc)] at k
      exact k _ c ⟨a, L', rfl, rfl, upd_same, fun p hp => kt (t p (e ▸ hp)), by rw [e]; exact l, by rw [e]; exact m⟩
    · have pm := c2 fun z => hc ((m d).mp z)
      rw [if_neg (show ¬ xs.contains d = true by rw [List.contains_eq_mem, decide_eq_false hc]; exact Bool.false_ne_true)] at k
      refine k _ c ⟨a, L', rfl, rfl, upd_same, fun p hp => ?_, by rw [pm.length_eq, List.length_cons, List.length_append, l]; rfl, fun q => ?_⟩
      · rcases List.mem_cons.mp (pm.mem_iff.mp hp) with rfl | hp
        · exact kt s
        · exact kt (t p hp)
      · rw [(pm.map (·.2)).mem_iff, List.map_cons, List.mem_cons, m q, List.mem_append, List.mem_singleton]
        constructor
        · rintro (z | z)
          · simp only [List.cons.injEq, and_true] at z
            exact .inr (Prod.ext z.1 z.2)
          · exact .inl z
        · rintro (z | rfl)
          · exact .inr z
          · exact .inl rfl
  · cases hm
theorem pe_saddP {K : PySem.W.Frag} {P : Program} {w : World} {o e : Expr} {es : List Expr} {t : TA} {apos cpos : Pos} (hu : X.A.units + 64 < cLine) (ho : PE X o to) (ha : PA X (e :: es) t) (e0 : X.K = K := by rfl) (e1 : X.prog = P := by rfl) (e2 : X.w = w := by rfl)
    (hbase : attributeBase o "add" X.env (eval o X.env) = eval o X.env := by rfl)
    (hfew : ((backTo cpos (starEach (e :: es) X.env)).all (fun x => !x.1) && (backToKw cpos (keywordEach [] X.env)).all (fun x => x.1.isSome)
      && decide ((e :: es).length + ([] : List Keyword).length + (if ([] : List Keyword).isEmpty then 0 else 1) < 30)) = true := by rfl)
    (hline : (apos.endLine == cpos.line) = true := by rfl) (hs : starEach (e :: es) X.env = (false, eval e X.env) :: starEach es X.env := by rfl) (hplain : (backTo cpos (starEach es X.env)).any (·.1) = false := by rfl) :
    PE X (.Call (.Attribute o "add" apos) (e :: es) [] cpos) (tBAdd K P w to t) := by subst e0 e1 e2; exact pe_badd hu ho ha hbase hfew hline hs hplain
end
end G

namespace G
open PySem PySem.Spec PyProof.Rows L2
theorem pg_tupk {X : Cx} {K : PySem.W.Frag} {es : List Expr} {k : Nat} {t : TGs} {n : Nat} {pos : Pos} (hc : X.calm = true) (h : PGs X es t) (e : X.K = K := by rfl)
    (hn : (assignEach es X.env).length = n := by rfl) (hst : (assignEach es X.env).findIdx? (·.1) = none := by rfl) : PG X (.Tuple es k pos) (gTup K n t) := by subst e; exact pg_tup hc h hn hst
theorem st_eqT {σ σ' : L2.St} {H : Hp} {t : TT} {Q : Bool → Hp → Prop} (e : σ = σ') (h : t σ' H Q) : t σ H Q := e ▸ h
end G

namespace G
open PySem PySem.Spec PyProof.Rows L2
section
variable {K : PySem.W.Frag} {σ σ' : L2.St} {H : Hp} {F F1 F2 Fu : List Addr} {ta tb tc te : TE} {tA : TT} {v u x y : V} {i j k : Int} {α β : Type} {τ : Ty α} {υ : Ty β} {Q : VK} {c : Bool}
/-- a < b < c -/
theorem val_chainI {p q : Int → Int → Bool} (ha : Val ta σ H (.int i)) (hb : Val tb σ H (.int j)) (hc : Val tc σ H (.int k)) : Val (tChain (rI0 fun i j => .bl (p i j)) (rI0 fun i j => .bl (q i j)) ta tb tc) σ H (.bl (p i j && q j k)) := fun Q z => by
  refine ha _ (hb _ ⟨i, j, rfl, rfl, p i j, rfl, ?_⟩)
  cases e : p i j with
  | true =>
    rw [if_pos rfl]
    refine hc _ ⟨j, k, rfl, rfl, ?_⟩
    rw [e, Bool.true_and] at z; exact z
  | false =>
    rw [if_neg Bool.false_ne_true]
    rw [e, Bool.false_and] at z; exact z
/-- a if t else b -/
theorem val_if (ht : Ans tA σ H c) (h1 : c = true → Val ta σ H v) (h2 : c = false → Val tb σ H v) : Val (tIf tA ta tb) σ H v := fun Q z => ht _ (by
  cases hc : c with
  | true => rw [if_pos rfl]; exact h1 hc _ z
  | false => rw [if_neg Bool.false_ne_true]; exact h2 hc _ z)
theorem val_ifO {A B : Option α} {z : α} {f : α → V} (ht : Ans tA σ H c) (hz : (if c = true then A else B) = some z) (h1 : A = some z → Val ta σ H (f z)) (h2 : B = some z → Val tb σ H (f z)) : Val (tIf tA ta tb) σ H (f z) :=
  val_if ht (fun hc => h1 (by rw [if_pos hc] at hz; exact hz)) fun hc => h2 (by rw [hc, if_neg Bool.false_ne_true] at hz; exact hz)
end
end G

namespace G
open PySem PySem.Spec PyProof.Rows L2
section
variable {X : Cx} {K : PySem.W.Frag} {σ σ' : L2.St} {H : Hp} {F F1 F2 Fu : List Addr} {ta tb te : TE} {v u x y : V} {Q : VK} {b c : Bool}
/-- b is True -/
def rIsB : R2 := fun x y H Q => ∃ a b, x = .bl a ∧ y = .bl b ∧ Q (.bl (decide (a = b))) H
def rNotB : R2 := fun x y H Q => ∃ a b, x = .bl a ∧ y = .bl b ∧ Q (.bl (!decide (a = b))) H
theorem op_isB : OpR X (compareOp .Is) rIsB := op_is_bl
theorem op_notB : OpR X (compareOp .IsNot) rNotB := op_isnot_bl
theorem w_isB (k : Q (.bl (decide (b = c))) H) : rIsB (.bl b) (.bl c) H Q := ⟨b, c, rfl, rfl, k⟩
theorem w_notB (k : Q (.bl (!decide (b = c))) H) : rNotB (.bl b) (.bl c) H Q := ⟨b, c, rfl, rfl, k⟩
theorem val_isB (ha : Val ta σ H (.bl b)) (hb : Val tb σ H (.bl c)) : Val (tOp rIsB ta tb) σ H (.bl (decide (b = c))) := val_op ha hb fun Q q => w_isB q
theorem val_notB (ha : Val ta σ H (.bl b)) (hb : Val tb σ H (.bl c)) : Val (tOp rNotB ta tb) σ H (.bl (!decide (b = c))) := val_op ha hb fun Q q => w_notB q
end
end G

namespace G
open PySem PySem.Spec PyProof.Rows L2
/-! ### a list of a few things of kinds of their own -/
def yHl {α : Type} (ts : Tys α) : Ty α where
  rep K H F v d := ∃ a vs G, v = .ref a ∧ F = a :: G ∧ a ∉ G ∧ H a = some (.lst vs) ∧ ts.rep K H G vs d
  keep {K H H' F v d} h k := by
    obtain ⟨a, vs, G, e, rfl, na, g, r⟩ := h
    exact ⟨a, vs, G, e, rfl, na, k a _ g (.inl (List.mem_cons_self ..)), ts.keep r fun b o hb z => k b o hb (z.imp (List.mem_cons_of_mem _) id)⟩
  dom {K H F v d} h b m := by
    obtain ⟨a, vs, G, e, rfl, na, g, r⟩ := h
    rcases List.mem_cons.mp m with rfl | m
    · exact ⟨_, g, fun z => z⟩
    · exact ts.dom r b m
section
variable {K : PySem.W.Frag} {σ σ' : L2.St} {H : Hp} {F F1 F2 Fu G : List Addr} {ta tb te : TE} {v u x y : V} {i j : Int} {α β : Type} {τ : Ty α} {υ : Ty β} {ts : Tys α} {Q : VK} {D : Ends} {nx : L2.St → Hp → Prop}
theorem itm_hl {n : Nat} {p : α → β} {d : α} (A : At ts n υ p) (r : (yHl ts).rep K H F v d) :
    ∃ u F1, υ.rep K H F1 u (p d) ∧ (∀ a ∈ F1, a ∈ F) ∧ (∀ {Q : VK}, Q u H → rIxL K v (.int (n : Int)) H Q) ∧ ∀ {σ : L2.St} {ta tb : TE}, Val ta σ H v → Val tb σ H (.int (n : Int)) → Val (tOp (rIxL K) ta tb) σ H u := by
  obtain ⟨a, vs, G, rfl, rfl, na, g, q⟩ := r
  obtain ⟨u, F1, e, ru, sub⟩ := A q
  have k : ∀ {Q : VK}, Q u H → rIxL K (.ref a) (.int (n : Int)) H Q := fun k => ⟨a, vs, n, u, rfl, rfl, .inl (.inl g), atI_nat e, k⟩
  exact ⟨u, F1, ru, fun b hb => List.mem_cons_of_mem _ (sub b hb), k, fun ha hb => val_op ha hb fun Q q => k q⟩
theorem e_hl {vs : List V} {d : α} (z : vs.length ≤ Mi.big) (r : ts.rep K H G vs d) (k : ∀ p H', H p = none → Chg [] H H' → (yHl ts).rep K H' (p :: G) (.ref p) d → Q (.ref p) H') : LstG vs H Q :=
  ⟨sz z, fun p np => k p _ np (Chg.new np) ⟨p, vs, G, rfl, rfl, (fun hp => by
    obtain ⟨o, ho, _⟩ := ts.dom r p hp
    rw [np] at ho; cases ho), upd_same, ts.keep r fun b o e _ => by rw [upd_ne (ne_of_none e np)]; exact e⟩⟩
def AllL (ts : Tys α) : Prop := ∀ {K : PySem.W.Frag} {H : Hp} {G : List Addr} {vs : List V} {d : α}, ts.rep K H G vs d → ∀ u ∈ vs, ∃ p xs, u = .ref p ∧ p ∈ G ∧ H p = some (.lst xs)
theorem als_one : AllL (sOne (yLst τ)) := fun r u m => by
  obtain ⟨w, rfl, q⟩ := r
  obtain rfl := List.mem_singleton.mp m
  obtain ⟨p, vs, rfl, rfl, g, _⟩ := q
  exact ⟨p, vs, rfl, List.mem_singleton.mpr rfl, g⟩
theorem als_cons (h : AllL ts) : AllL (sCons (yLst υ) ts) := fun r u m => by
  obtain ⟨w, ws, F1, F2, rfl, rfl, q, qs⟩ := r
  rcases List.mem_cons.mp m with rfl | m
  · obtain ⟨p, vs, rfl, rfl, g, _⟩ := q
    exact ⟨p, vs, rfl, List.mem_append_left _ (List.mem_singleton.mpr rfl), g⟩
  · obtain ⟨p, xs, e, hp, g⟩ := h qs u m
    exact ⟨p, xs, e, List.mem_append_right _ hp, g⟩
/-- for part in parts: part.clear() -/
theorem l_clear {tb : TS} {d : α} {s : Nat} (al : AllL ts) (r : (yHl ts).rep K H F v d) (hs : s < σ.length)
    (hb : ∀ (D : Ends) (σ : L2.St) (H : Hp) (p : Addr) (xs : List V), σ[s]? = some (some (.ref p)) → H p = some (.lst xs) → D.nx σ (upd H p (.lst [])) → tb D σ H)
    (hk : ∀ σ' H', Chg F H H' → (∃ y, σ' = σ.set s y) → nx σ' H') :
    ∃ a, v = .ref a ∧ (∃ xs, SqL K H a xs) ∧ LoopG (Itl K a) (gName s) tb D nx σ H := by
  obtain ⟨a, vs, G, rfl, rfl, na, g, q⟩ := r
  have hl := al q
  have ini : ∃ y, σ = σ.set s y := ⟨σ[s], (List.set_getElem_self hs).symm⟩
  refine ⟨a, rfl, ⟨vs, .inl (.inl g)⟩, fun i m σ' H' => m = vs.length - i ∧ i ≤ vs.length ∧ Chg (a :: G) H H' ∧ H' a = some (.lst vs) ∧ (∀ u ∈ vs, ∃ p xs, u = .ref p ∧ p ∈ G ∧ H' p = some (.lst xs)) ∧ (∃ y, σ' = σ.set s y), ⟨vs.length, by omega, Nat.zero_le _, Chg.refl H, g, hl, ini⟩, ?_⟩
  rintro i m σ' H' ⟨rfl, hi, c, ga, hu, y', hy⟩
  by_cases hlt : i < vs.length
  · have hv : vs[i]? = some vs[i] := List.getElem?_eq_getElem hlt
    refine .inr ⟨⟨vs, vs[i], .inl (.inl ga), hv⟩, fun σ2 H2 => i + 1 ≤ vs.length ∧ Chg (a :: G) H H2 ∧ H2 a = some (.lst vs) ∧ (∀ u ∈ vs, ∃ p xs, u = .ref p ∧ p ∈ G ∧ H2 p = some (.lst xs)) ∧ (∃ y, σ2 = σ.set s y), fun σ2 H2 p' => ⟨vs.length - (i + 1), by omega, rfl, p'⟩, fun x H2 y => ?_⟩
    obtain ⟨rfl, y⟩ := y
    obtain rfl : x = vs[i] := Option.some.inj ((y _ (.inl (.inl ga))).symm.trans hv)
    obtain ⟨p, xs, ep, hp, gp⟩ := hu _ (List.mem_of_getElem? hv)
    rw [ep]
    have hs2 : s < σ'.length := by rw [hy, List.length_set]; exact hs
    refine hb _ _ _ p xs (by show (σ'.set s (some (.ref p)))[s]? = _; rw [List.getElem?_set_self hs2]) gp ⟨hlt, ?_, ?_, fun u m => ?_, ?_⟩
    · exact c.trans ((Chg.wr gp (fun z => z)).mono fun b hb => by rw [List.mem_singleton] at hb; subst hb; exact List.mem_cons_of_mem _ hp)
    · have : a ≠ p := fun e => by subst e; exact na hp
      rw [upd_ne this]; exact ga
    · obtain ⟨p2, ys, e2, hp2, g2⟩ := hu u m
      by_cases e : p2 = p
      · subst e; exact ⟨p2, [], e2, hp2, upd_same⟩
      · exact ⟨p2, ys, e2, hp2, by rw [upd_ne e]; exact g2⟩
    · exact ⟨_, by show σ'.set s _ = _; rw [hy, List.set_set]⟩
  · obtain rfl : i = vs.length := by omega
    exact .inl ⟨⟨vs, .inl (.inl ga), Nat.le_refl _⟩, hk σ' H' c ⟨y', hy⟩⟩
end
end G

namespace L2
open PySem PySem.Spec PyProof.Rows
section
variable {prog : Program} {w : World} {A : Around} {E : Value → Shared → Prop} {s : Shared}
theorem collect_tupleA {l : Addr} {vs : List Value} {Q : List Value → Shared → Prop} (hl : s.heap.IsTuple l vs.toArray) (hsz : vs.length ≤ sizeLine)
    (h : Q vs { s with heap := (s.heap.push (seqObj "list" #[] 0)).update s.heap.objs.size (Obj.mapSeq (· ++ vs.toArray)) }) :
    wpAny (model prog w) A (collect (.ref l)) Q E s := by
  obtain ⟨o, ho, hc, n, hd⟩ := id hl
  unfold collect
  refine wpAny_bind (wpAny_runValue (codeAny_builtin entry_proto_collect' ?_))
  show wpAny _ _ (do again (.builtin "list.__iadd__" ⟨[← newList [], .ref l], []⟩)) _ _ s
  refine wpAny_bind (wpAny_newList (wpAny_pure ⟨Code.quiet_builtin _ (by decide +kernel), codeAny_builtin entry_list_iadd' ?_⟩))
  show wpAny _ _ (Builtin.List.listExtendWith (.ref s.heap.objs.size) (.ref l) (.ref s.heap.objs.size)) _ _ { s with heap := s.heap.push (seqObj "list" #[] 0) }
  unfold Builtin.List.listExtendWith
  have ho' : (s.heap.push (seqObj "list" #[] 0)).get? l = some o := Heap.get?_push_of_some _ ho
  refine wpAny_bind (wpAny_typeOf (T := "tuple") ⟨o, ho', hc⟩ ?_)
  have ht : (Value.type "tuple" == Value.type "tuple") = true := by rfl
  rw [if_pos (by rw [ht]; simp)]
  refine wpAny_bind (listItems_at ho' hd ?_)
  refine wpAny_bind (listItems_at (xs := #[]) (n := 0) (Heap.get?_push_size _ rfl) rfl ?_)
  rw [if_neg (by simp)]
  refine wpAny_bind (listUpdate_at (xs := #[]) (n := 0) (Heap.get?_push_size _ rfl) rfl ?_ (Nat.zero_le _) (by show (#[] ++ vs.toArray).size ≤ sizeLine + 1; simp only [Array.size_append, List.size_toArray, List.length_nil]; omega))
  refine wpAny_pure ?_
  show wpAny (model prog w) A (do
      let o ← load s.heap.objs.size
      match o.data with
      | .seq xs _ => pure xs.toList
      | _ => unsupported "internal:collect") Q E { s with heap := (s.heap.push (seqObj "list" #[] 0)).update s.heap.objs.size (Obj.mapSeq (· ++ vs.toArray)) }
  refine wpAny_bind (wpAny_load (get?_update_seq (Heap.get?_push_size _ rfl) _) ?_)
  show wpAny _ _ (pure ((#[] : Array Value) ++ vs.toArray).toList) Q E _
  rw [show ((#[] : Array Value) ++ vs.toArray).toList = vs by simp]
  exact wpAny_pure h
theorem sorted_ordT {l : Addr} {vs : List Value} {ltv : Value → Value → Bool} {Q : Value → Shared → Prop} (O : SrtO.Swo ltv) (hl : s.heap.IsTuple l vs.toArray) (hz : vs.length ≤ sizeLine)
    (hS : 2 ≤ vs.length → ∀ (h₁ : Heap) (a : Addr), h₁.get? a = some (seqObj "list" vs.toArray 0) → (∀ b o, s.heap.get? b = some o → b ≠ a ∧ h₁.get? b = some o) → SrtO.SortableO prog w A.in1.in1 { s with heap := h₁ } a vs ltv)
    (h : ∀ out : List Value, SrtO.Srtd ltv out → SrtO.Stb ltv out vs → Q (.ref (s.heap.objs.size + 1)) { s with heap := sortedAll s.heap vs out.toArray }) :
    wpAny (model prog w) A (call (.builtin "sorted") [.ref l]) Q E s := by
  refine Calls.call_function_entry kind_sorted plain_sorted entry_sorted (args_sorted1 _) ?_
  unfold Builtin.«sorted»
  refine wpAny_bind (m := checkCount "sorted" 1 1 _) (wpAny_pure ?_)
  refine wpAny_bind (collect_tupleA hl hz ?_)
  refine wpAny_bind (wpAny_newList ?_ hz)
  have hsz : ((s.heap.push (seqObj "list" #[] 0)).update s.heap.objs.size (Obj.mapSeq (· ++ vs.toArray))).objs.size = s.heap.objs.size + 1 := by
    rw [Heap.size_update, size_push']
  have hoL : (((s.heap.push (seqObj "list" #[] 0)).update s.heap.objs.size (Obj.mapSeq (· ++ vs.toArray))).push (seqObj "list" vs.toArray 0)).get? (s.heap.objs.size + 1) = some (seqObj "list" vs.toArray 0) := by
    rw [← hsz]; exact Heap.get?_push_size _ rfl
  have keep : ∀ b o, s.heap.get? b = some o → b ≠ s.heap.objs.size + 1 ∧ (((s.heap.push (seqObj "list" #[] 0)).update s.heap.objs.size (Obj.mapSeq (· ++ vs.toArray))).push (seqObj "list" vs.toArray 0)).get? b = some o := fun b o q => by
    have hlt : b < s.heap.objs.size := Heap.lt_size q
    refine ⟨Nat.ne_of_lt (Nat.lt_succ_of_lt hlt), Heap.get?_push_of_some _ ?_⟩
    rw [Heap.get?_update_ne _ _ _ _ (Nat.ne_of_lt hlt)]
    exact Heap.get?_push_of_some _ q
  show wpAny _ _ _ _ _ { s with heap := ((s.heap.push (seqObj "list" #[] 0)).update s.heap.objs.size (Obj.mapSeq (· ++ vs.toArray))).push (seqObj "list" vs.toArray 0) }
  rw [hsz]
  refine wpAny_bind (wpAny_holding (wpAny_call_entry slot_list_sort ⟨_, hoL, rfl⟩ entry_list_sort (SrtO.list_sort_ord O hoL hz (fun h2 => hS h2 _ _ hoL keep) fun out hs hb => ⟨_, rfl, ?_⟩) (args_list_sort _)))
  exact wpAny_pure ⟨_, rfl, h out hs hb⟩
theorem iter_intTup {l : Addr} {xs : Array (Int × Tok)} {Q : Value → Shared → Prop} (hl : s.heap.IsTuple l (intItems xs))
    (h : ∀ s₂ : Shared, s₂ = { s with heap := s.heap.push { cls := .type "tuple_iterator", data := .fields #[.ref l, .int 0 0] } } →
      (s₂.heap.IsTupleIter s.heap.objs.size l 0 ∧ s₂.heap.IsTuple l (intItems xs)) → (∀ b ∈ [s.heap.objs.size, l], b < s₂.heap.objs.size) → l ≠ s.heap.objs.size → Q (.ref s.heap.objs.size) s₂) :
    wpAny (model prog w) A (pyIter (.ref l)) Q E s := by
  have hlt : l < s.heap.objs.size := by obtain ⟨_, e, _⟩ := hl; exact Heap.lt_size e
  refine wpAny_pyIter_tuple hl (h _ rfl ⟨⟨_, Heap.get?_push_size _ rfl, rfl, rfl⟩, hl.push _⟩ (fun b hb => ?_) (Nat.ne_of_lt hlt))
  show b < (s.heap.push _).objs.size
  rw [Heap.size_push]
  rcases List.mem_cons.mp hb with rfl | hb
  · exact Nat.lt_succ_self _
  · rcases List.mem_cons.mp hb with rfl | hb
    · exact Nat.lt_succ_of_lt hlt
    · cases hb
theorem old_keptT {l : Addr} {h' : Heap} (hk : ∀ b o, b ∉ [s.heap.objs.size] → (s.heap.push { cls := .type "tuple_iterator", data := .fields #[.ref l, .int 0 0] }).get? b = some o → h'.get? b = some o) :
    ∀ b o, s.heap.get? b = some o → h'.get? b = some o := fun b o e => by
  refine hk b o (fun hm => ?_) (Heap.get?_push_of_some _ e)
  rcases List.mem_cons.mp hm with e1 | hm
  · exact absurd (e1 ▸ Heap.lt_size e) (Nat.lt_irrefl _)
  · cases hm
theorem max_intTup {l : Addr} {xs : Array (Int × Tok)} {Q : Value → Shared → Prop} (hh : A.handled = none) (hl : s.heap.IsTuple l (intItems xs)) (hne : 0 < xs.size)
    (h : ∀ v h' tk, (intItems xs)[argBest (fun i j => decide (numAt xs i > numAt xs j)) (xs.size - 1)]? = some v → (∀ b o, s.heap.get? b = some o → h'.get? b = some o) → Q v { s with heap := h', toks := tk }) :
    wpAny (model prog w) A (call (.builtin "max") [.ref l]) Q E s := by
  refine call_max_walk (iter_intTup hl fun s₂ e st hfp hlI => ?_)
  subst e
  refine ⟨_, _, _, _, _, _, _, rfl, Walks.tuple (A := A.in1) hh _ l hlI (intItems xs), st, hfp, by simpa [intItems] using hne, CmpOf.ints_gt (numAt xs) (fun _ _ => intItems_at), fun v h' tk hP hk => ?_⟩
  exact h v h' tk (by simpa [intItems] using hP) (old_keptT hk)
theorem min_intTup {l : Addr} {xs : Array (Int × Tok)} {Q : Value → Shared → Prop} (hh : A.handled = none) (hl : s.heap.IsTuple l (intItems xs)) (hne : 0 < xs.size)
    (h : ∀ v h' tk, (intItems xs)[argBest (fun i j => decide (numAt xs i < numAt xs j)) (xs.size - 1)]? = some v → (∀ b o, s.heap.get? b = some o → h'.get? b = some o) → Q v { s with heap := h', toks := tk }) :
    wpAny (model prog w) A (call (.builtin "min") [.ref l]) Q E s := by
  refine call_min_walk (iter_intTup hl fun s₂ e st hfp hlI => ?_)
  subst e
  refine ⟨_, _, _, _, _, _, _, rfl, Walks.tuple (A := A.in1) hh _ l hlI (intItems xs), st, hfp, by simpa [intItems] using hne, CmpOf.ints_lt (numAt xs) (fun _ _ => intItems_at), fun v h' tk hP hk => ?_⟩
  exact h v h' tk (by simpa [intItems] using hP) (old_keptT hk)
theorem max_rawT {l : Addr} {its : List Value} {ns : List Int} {Q : Value → Shared → Prop} (hh : A.handled = none) (hl : s.heap.IsTuple l its.toArray) (hi : IntsAre its ns) (hne : 0 < ns.length)
    (h : ∀ h' tk M t', (∀ b o, s.heap.get? b = some o → h'.get? b = some o) → M ∈ ns → (∀ a, a ∈ ns → a ≤ M) → Q (.int M t') { s with heap := h', toks := tk }) : wpAny (model prog w) A (call (.builtin "max") [.ref l]) Q E s := by
  obtain ⟨xs, e⟩ := hi.allInts.items
  have hn : numsOf (intItems xs).toList = ns := by rw [← e]; exact hi.numsOf
  rw [nums_intItems] at hn
  subst hn
  rw [e] at hl
  have hsz : 0 < xs.size := by simpa using hne
  refine max_intTup hh hl hsz fun v h' tk hv hk => ?_
  obtain ⟨t, rfl⟩ := intItems_at hv
  obtain ⟨h1, h2⟩ := argBest_gt (numAt xs) (xs.size - 1)
  refine h h' tk _ t hk ?_ fun a ha => ?_
  · rw [numAt_eq]; exact PySem.getD_mem (by rw [List.length_map, Array.length_toList]; omega)
  · obtain ⟨j, hj, rfl⟩ := mem_getD ha
    rw [List.length_map, Array.length_toList] at hj
    rw [← numAt_eq]; exact h2 j (by omega)
theorem min_rawT {l : Addr} {its : List Value} {ns : List Int} {Q : Value → Shared → Prop} (hh : A.handled = none) (hl : s.heap.IsTuple l its.toArray) (hi : IntsAre its ns) (hne : 0 < ns.length)
    (h : ∀ h' tk M t', (∀ b o, s.heap.get? b = some o → h'.get? b = some o) → M ∈ ns → (∀ a, a ∈ ns → M ≤ a) → Q (.int M t') { s with heap := h', toks := tk }) : wpAny (model prog w) A (call (.builtin "min") [.ref l]) Q E s := by
  obtain ⟨xs, e⟩ := hi.allInts.items
  have hn : numsOf (intItems xs).toList = ns := by rw [← e]; exact hi.numsOf
  rw [nums_intItems] at hn
  subst hn
  rw [e] at hl
  have hsz : 0 < xs.size := by simpa using hne
  refine min_intTup hh hl hsz fun v h' tk hv hk => ?_
  obtain ⟨t, rfl⟩ := intItems_at hv
  obtain ⟨h1, h2⟩ := argBest_lt (numAt xs) (xs.size - 1)
  refine h h' tk _ t hk ?_ fun a ha => ?_
  · rw [numAt_eq]; exact PySem.getD_mem (by rw [List.length_map, Array.length_toList]; omega)
  · obtain ⟨j, hj, rfl⟩ := mem_getD ha
    rw [List.length_map, Array.length_toList] at hj
    rw [← numAt_eq]; exact h2 j (by omega)
end
section
variable {X : Cx}
def rSortedIT (K : PySem.W.Frag) : List V → Hp → VK → Prop := fun vs H Q => ∃ (a : Addr) (ns : List Int), vs = [V.ref a] ∧ SqT K H a (ns.map V.int) ∧
  ∀ (ns' : List Int) (p : Addr), ns'.Perm ns → ns'.Pairwise (· ≤ ·) → H p = none → Q (.ref p) (upd H p (.lst (ns'.map V.int)))
def rMaxT (K : PySem.W.Frag) : List V → Hp → VK → Prop := fun vs H Q => ∃ (a : Addr) (ns : List Int), vs = [V.ref a] ∧ SqT K H a (ns.map V.int) ∧ 0 < ns.length ∧ ∀ m, m ∈ ns → (∀ y, y ∈ ns → y ≤ m) → Q (.int m) H
def rMinT (K : PySem.W.Frag) : List V → Hp → VK → Prop := fun vs H Q => ∃ (a : Addr) (ns : List Int), vs = [V.ref a] ∧ SqT K H a (ns.map V.int) ∧ 0 < ns.length ∧ ∀ m, m ∈ ns → (∀ y, y ∈ ns → m ≤ y) → Q (.int m) H
theorem cr_sortedIT : CallR X (.builtin "sorted") (rSortedIT X.K) := by
  intro pins s σ H vs us Q I r h
  obtain ⟨a, ns, rfl, hs, q⟩ := h
  obtain ⟨its, rv, hl, hz⟩ := I.tuple hs
  rw [Vals.ref1 r]
  have hi := rv.ints
  refine sorted_ordT SrtO.swo_int hl (by rw [← rv.length]; exact hz) (fun h2 h₁ a' _ _ => SrtO.ints_sortable hi h2) fun out h1 h2 => ?_
  obtain ⟨k1, k2, k3⟩ := SrtO.ints_out hi h1 h2
  obtain ⟨ep, he'⟩ := PyProof.Rows.sortedAll_at s.heap its out.toArray
  have hlen : ((out.map SrtO.iv).map V.int).length ≤ sizeLine := by
    rw [List.length_map, k2.length_eq]
    rw [List.length_map] at hz
    exact hz
  exact ⟨.ref _, upd H (s.heap.objs.size + 1) (.lst ((out.map SrtO.iv).map V.int)), I.laid (t' := s.toks) (fun _ _ => PyProof.Rows.sortedAll_old) (Nat.le_succ _) ⟨hlen, out, ep, vals_of_ints k1, he'⟩, rfl, q _ _ k2 k3 (I.hok.fresh (Nat.le_succ _))⟩
theorem cr_maxT (hc : X.calm = true) : CallR X (.builtin "max") (rMaxT X.K) := by
  intro pins s σ H vs us Q I r h
  obtain ⟨a, ns, rfl, hs, hne, q⟩ := h
  obtain ⟨its, rv, hl, _⟩ := I.tuple hs
  rw [Vals.ref1 r]
  exact max_rawT (I.ok.hd hc) hl rv.ints hne fun h' tk m t' hk h1 h2 => ⟨.int _, H, I.kept hk, ⟨_, rfl⟩, q m h1 h2⟩
theorem cr_minT (hc : X.calm = true) : CallR X (.builtin "min") (rMinT X.K) := by
  intro pins s σ H vs us Q I r h
  obtain ⟨a, ns, rfl, hs, hne, q⟩ := h
  obtain ⟨its, rv, hl, _⟩ := I.tuple hs
  rw [Vals.ref1 r]
  exact min_rawT (I.ok.hd hc) hl rv.ints hne fun h' tk m t' hk h1 h2 => ⟨.int _, H, I.kept hk, ⟨_, rfl⟩, q m h1 h2⟩
end
end L2
namespace Mi
theorem foldmin (xs : List Int) : ∀ a : Int, (xs.foldl min a = a ∨ xs.foldl min a ∈ xs) ∧ xs.foldl min a ≤ a ∧ ∀ y ∈ xs, xs.foldl min a ≤ y := by
  induction xs with
  | nil => intro a; exact ⟨.inl rfl, Int.le_refl _, fun y h => nomatch h⟩
  | cons x xs ih =>
    intro a
    obtain ⟨h1, h2, h3⟩ := ih (min a x)
    show (xs.foldl min (min a x) = a ∨ _) ∧ xs.foldl min (min a x) ≤ a ∧ _
    refine ⟨?_, by omega, fun y hy => ?_⟩
    · rcases h1 with h1 | h1
      · by_cases hax : a ≤ x
        · exact .inl (by rw [h1]; omega)
        · refine .inr (List.mem_cons.mpr (.inl ?_)); show xs.foldl min (min a x) = x; rw [h1]; omega
      · exact .inr (List.mem_cons_of_mem _ h1)
    · show xs.foldl min (min a x) ≤ y
      rcases List.mem_cons.mp hy with rfl | hy
      · omega
      · exact h3 y hy
theorem foldmax (xs : List Int) : ∀ a : Int, (xs.foldl max a = a ∨ xs.foldl max a ∈ xs) ∧ a ≤ xs.foldl max a ∧ ∀ y ∈ xs, y ≤ xs.foldl max a := by
  induction xs with
  | nil => intro a; exact ⟨.inl rfl, Int.le_refl _, fun y h => nomatch h⟩
  | cons x xs ih =>
    intro a
    obtain ⟨h1, h2, h3⟩ := ih (max a x)
    show (xs.foldl max (max a x) = a ∨ _) ∧ a ≤ xs.foldl max (max a x) ∧ _
    refine ⟨?_, by omega, fun y hy => ?_⟩
    · rcases h1 with h1 | h1
      · by_cases hax : x ≤ a
        · exact .inl (by rw [h1]; omega)
        · refine .inr (List.mem_cons.mpr (.inl ?_)); show xs.foldl max (max a x) = x; rw [h1]; omega
      · exact .inr (List.mem_cons_of_mem _ h1)
    · show y ≤ xs.foldl max (max a x)
      rcases List.mem_cons.mp hy with rfl | hy
      · omega
      · exact h3 y hy
theorem lMin_spec {xs : List Int} {m : Int} (h : lMin xs = some m) : 0 < xs.length ∧ m ∈ xs ∧ ∀ y ∈ xs, m ≤ y := by
  cases xs with
  | nil => cases h
  | cons x xs =>
    obtain rfl : (x :: xs).foldl min x = m := Option.some.inj h
    obtain ⟨h1, h2, h3⟩ := foldmin (x :: xs) x
    refine ⟨Nat.succ_pos _, ?_, h3⟩
    rcases h1 with h1 | h1
    · rw [h1]; exact List.mem_cons_self ..
    · exact h1
theorem lMax_spec {xs : List Int} {m : Int} (h : lMax xs = some m) : 0 < xs.length ∧ m ∈ xs ∧ ∀ y ∈ xs, y ≤ m := by
  cases xs with
  | nil => cases h
  | cons x xs =>
    obtain rfl : (x :: xs).foldl max x = m := Option.some.inj h
    obtain ⟨h1, h2, h3⟩ := foldmax (x :: xs) x
    refine ⟨Nat.succ_pos _, ?_, h3⟩
    rcases h1 with h1 | h1
    · rw [h1]; exact List.mem_cons_self ..
    · exact h1
end Mi
namespace G
open PySem PySem.Spec PyProof.Rows L2
section
variable {X : Cx} {K : PySem.W.Frag} {σ σ' : L2.St} {H : Hp} {F : List Addr} {v : V} {Q : VK} {m : Int}
theorem cl_sortedT {K : PySem.W.Frag} (e : X.K = K := by rfl) : CallR X (.builtin "sorted") (rSortedIT K) := by subst e; exact cr_sortedIT
theorem w_sortedT {xs : List Int} (r : (yTupL yInt).rep K H F v xs) (k : ∀ p H', H p = none → Chg [] H H' → (yLst yInt).rep K H' [p] (.ref p) (Mi.sortI xs) → Q (.ref p) H') : rSortedIT K [v] H Q := by
  obtain ⟨p, rfl, s⟩ := ints_sqT r
  refine ⟨p, xs, rfl, s, fun ns q pm so nq => ?_⟩
  rw [sorted_unique (pm.trans (sortI_perm xs).symm) so (sortI_sorted xs)]
  exact k q _ nq (Chg.new nq) ⟨q, _, rfl, rfl, upd_same, ints_mk _⟩
theorem cl_maxT {K : PySem.W.Frag} (hc : X.calm = true) (e : X.K = K := by rfl) : CallR X (.builtin "max") (rMaxT K) := by subst e; exact cr_maxT hc
theorem cl_minT {K : PySem.W.Frag} (hc : X.calm = true) (e : X.K = K := by rfl) : CallR X (.builtin "min") (rMinT K) := by subst e; exact cr_minT hc
theorem cl_maxL {K : PySem.W.Frag} (hc : X.calm = true) (e : X.K = K := by rfl) : CallR X (.builtin "max") (rMax K) := by subst e; exact cr_max hc
theorem cl_minL {K : PySem.W.Frag} (hc : X.calm = true) (e : X.K = K := by rfl) : CallR X (.builtin "min") (rMin K) := by subst e; exact cr_min hc
theorem cl_sumL {K : PySem.W.Frag} (hc : X.calm = true) (e : X.K = K := by rfl) : CallR X (.builtin "sum") (rSum K) := by subst e; exact cr_sum hc
theorem w_maxT {xs : List Int} (r : (yTupL yInt).rep K H F v xs) (h : Mi.lMax xs = some m) (k : Q (.int m) H) : rMaxT K [v] H Q := by
  obtain ⟨p, rfl, s⟩ := ints_sqT r
  obtain ⟨h1, h2, h3⟩ := Mi.lMax_spec h
  exact ⟨p, xs, rfl, s, h1, fun z hz ha => by rw [show z = m from Int.le_antisymm (h3 z hz) (ha m h2)]; exact k⟩
theorem w_minT {xs : List Int} (r : (yTupL yInt).rep K H F v xs) (h : Mi.lMin xs = some m) (k : Q (.int m) H) : rMinT K [v] H Q := by
  obtain ⟨p, rfl, s⟩ := ints_sqT r
  obtain ⟨h1, h2, h3⟩ := Mi.lMin_spec h
  exact ⟨p, xs, rfl, s, h1, fun z hz ha => by rw [show z = m from Int.le_antisymm (ha m h2) (h3 z hz)]; exact k⟩
theorem w_maxL {xs : List Int} (r : (yLst yInt).rep K H F v xs) (h : Mi.lMax xs = some m) (k : Q (.int m) H) : rMax K [v] H Q := by
  obtain ⟨p, rfl, s⟩ := ints_sqL r
  obtain ⟨h1, h2, h3⟩ := Mi.lMax_spec h
  exact ⟨p, xs, rfl, s, h1, fun z hz ha => by rw [show z = m from Int.le_antisymm (h3 z hz) (ha m h2)]; exact k⟩
theorem w_minL {xs : List Int} (r : (yLst yInt).rep K H F v xs) (h : Mi.lMin xs = some m) (k : Q (.int m) H) : rMin K [v] H Q := by
  obtain ⟨p, rfl, s⟩ := ints_sqL r
  obtain ⟨h1, h2, h3⟩ := Mi.lMin_spec h
  exact ⟨p, xs, rfl, s, h1, fun z hz ha => by rw [show z = m from Int.le_antisymm (ha m h2) (h3 z hz)]; exact k⟩
theorem w_sumL {xs : List Int} (r : (yLst yInt).rep K H F v xs) (k : Q (.int xs.sum) H) : rSum K [v] H Q := by
  obtain ⟨p, rfl, s⟩ := ints_sqL r
  exact ⟨p, xs, rfl, s, k⟩
end
/-! ### defaults that are tuples -/
def kwdAt (f : Str × Option Str) (x : Str) (K : PySem.W.Frag) : Addr := match K.lookup (He.fAd K f) with
  | some ⟨_, _, .func fd, _⟩ => (match fd.kwdefaults with
    | .ref D => (match PySem.W.nsIn K D x with
      | some (some (.ref a)) => a
      | _ => 0)
    | _ => 0)
  | _ => 0
def tupAt (K : PySem.W.Frag) (a : Addr) (vs : List He.Dv) : Bool := match K.lookup a with
  | some ⟨.type c, _, .seq its _, _⟩ => decide (c = "tuple") && (decide (its.size ≤ sizeLine) && He.relAll (vs.map (He.Dv.v K)) its.toList)
  | _ => false
theorem tupAt_ok {K : PySem.W.Frag} {a : Addr} {vs : List He.Dv} (h : tupAt K a vs = true) (H : Hp) : SqT K H a (vs.map (He.Dv.v K)) := by
  unfold tupAt at h
  cases q : K.lookup a with
  | none =>
    rw [q] at h
    cases h
  | some o =>
    obtain ⟨oc, od, dt, osl⟩ := o
    rw [q] at h
    cases oc with
    | type c =>
      cases dt with
      | seq its n =>
        obtain ⟨h1, h2⟩ := He.ba (show (decide (c = "tuple") && (decide (its.size ≤ sizeLine) && He.relAll (vs.map (He.Dv.v K)) its.toList)) = true from h)
        obtain ⟨h3, h4⟩ := He.ba h2
        exact .inr ⟨_, its, n, q, congrArg Value.type (of_decide_eq_true h1), rfl, of_decide_eq_true h3, He.relAll_ok h4⟩
      | _ => cases h
    | _ => cases dt <;> cases h
theorem tupAt_ints {K : PySem.W.Frag} {a : Addr} {ns : List Int} (h : tupAt K a (ns.map He.Dv.int) = true) (H : Hp) : (yTupL yInt).rep K H [] (.ref a) ns :=
  ⟨a, ns.map V.int, rfl, rfl, by have := tupAt_ok h H; rw [List.map_map] at this; exact this, ints_mk ns⟩
def permG (ix : List Nat) {α : Type} (us mv ws : List α) : List α := ix.filterMap fun i => (us ++ (mv ++ ws))[i]?
theorem vals_at {vs : List V} {us : List Value} (r : Vals vs us) (i : Nat) : (vs[i]? = none ∧ us[i]? = none) ∨ ∃ v u, vs[i]? = some v ∧ us[i]? = some u ∧ RelV v u := by
  induction r generalizing i with
  | nil => exact .inl ⟨rfl, rfl⟩
  | cons h t ih =>
    cases i with
    | zero => exact .inr ⟨_, _, rfl, rfl, h⟩
    | succ i => exact ih i
theorem vals_app {vs zs : List V} {us ws : List Value} (r : Vals vs us) (q : Vals zs ws) : Vals (vs ++ zs) (us ++ ws) := by
  induction r with
  | nil => exact q
  | cons h t ih => exact .cons h ih
theorem permG_rel (ix : List Nat) {vs mz zs : List V} {us mv ws : List Value} (r1 : Vals vs us) (r2 : Vals mz mv) (r3 : Vals zs ws) : Vals (permG ix vs mz zs) (permG ix us mv ws) := by
  have r := vals_app r1 (vals_app r2 r3)
  unfold permG
  induction ix with
  | nil => exact .nil
  | cons i ix ih =>
    rcases vals_at r i with ⟨e1, e2⟩ | ⟨v, u, e1, e2, h⟩
    · rw [List.filterMap_cons_none e1, List.filterMap_cons_none e2]; exact ih
    · rw [List.filterMap_cons_some e1, List.filterMap_cons_some e2]; exact .cons h ih
/-! ### the head's hook with a check of one's own -/
def obsEG (n : Nat) (fa : List He.Fa) (fn : List He.DefD) (ex : PySem.W.Frag → Bool) (g : Addr → Option Obj) : He.AlD × Bool := (He.obsD fa fn (He.frG g (He.asD g n)), ex (He.frG g (He.asD g n)))
def hookE (n : Nat) (fa : List He.Fa) (fn : List He.DefD) (ex : PySem.W.Frag → Bool) : PySem.W.Hook where
  α := He.AlD × Bool
  obs := fun s => obsEG n fa fn ex s.heap.get?
  val := fun _ => (He.valD fn, true)
  says := fun _ h => ∃ K : PySem.W.Frag, K.In h ∧ (He.SaysD fa fn K ∧ ex K = true)
  of := fun _ _ e => ⟨_, He.frG_in, congrArg Prod.fst e, congrArg Prod.snd e⟩
  keeps := fun _ _ _ ⟨K, hK, c⟩ k => ⟨K, PySem.W.Frag.In.keeps hK k, c⟩
theorem obsEG_eq {n : Nat} {fa : List He.Fa} {fn : List He.DefD} {ex : PySem.W.Frag → Bool} {g : Addr → Option Obj} {s : Shared} (h : ∀ a, g a = s.heap.get? a) : obsEG n fa fn ex g = (hookE n fa fn ex).obs s := by
  have e : g = s.heap.get? := funext h
  rw [e] <;> rfl
end G

namespace G
open PySem PySem.Spec PyProof.Rows L2
section
variable {X : Cx} {P : Program} {w : World} {K : PySem.W.Frag} {σ σ' : L2.St} {H : Hp} {F F1 F2 Fu : List Addr} {ta tb te to : TE} {v u x y : V} {i j : Int} {Q : VK} {α : Type} {τ : Ty α} {n : Nat}
/-! ### x in a list of data -/
theorem units1 {k : Nat} {A : Around} (r : Room k A) : A.units + 65 < cLine := by have := r.un; omega
theorem op_in_d {K : PySem.W.Frag} (hu : X.A.units + 65 < cLine) (e : X.K = K := by rfl) : OpR X (compareOp .In) (rInD K) := by subst e; exact op_inD hu
theorem op_ni_d {K : PySem.W.Frag} (hu : X.A.units + 65 < cLine) (e : X.K = K := by rfl) : OpR X (compareOp .NotIn) (rNotInD K) := by subst e; exact op_notInD hu
theorem any_eqv [BEq α] [LawfulBEq α] (d : Dat τ n) (xs : List α) (x : α) : ((xs.map d.f).any fun z => PyData.eqv z (d.f x)) = xs.contains x := by
  letI := d.dec
  induction xs with
  | nil => rfl
  | cons y ys ih =>
    rw [List.map_cons, List.any_cons, ih, d.eqv, List.contains_cons]
    congr 1
    by_cases e : y = x
    · subst e; simp
    · rw [decide_eq_false e, beq_eq_false_iff_ne.mpr (Ne.symm e)]
theorem w_inD [BEq α] [LawfulBEq α] {xs : List α} {d : α} (D : Dat τ n) (r : (yLst τ).rep K H F v xs) (q : τ.rep K H F2 u d) (k : Q (.bl (xs.contains d)) H) (hn : n + 1 ≤ 64 := by decide) : rInD K u v H Q :=
  ⟨_, _, D.dp q, (dat_lst D).dp r, D.shaped (by omega) d, (dat_lst D).shaped hn xs, by rw [any_eqv]; exact k⟩
theorem w_niD [BEq α] [LawfulBEq α] {xs : List α} {d : α} (D : Dat τ n) (r : (yLst τ).rep K H F v xs) (q : τ.rep K H F2 u d) (k : Q (.bl (!xs.contains d)) H) (hn : n + 1 ≤ 64 := by decide) : rNotInD K u v H Q :=
  ⟨_, _, D.dp q, (dat_lst D).dp r, D.shaped (by omega) d, (dat_lst D).shaped hn xs, by rw [any_eqv]; exact k⟩
theorem w_inDG [BEq α] [LawfulBEq α] {xs : List α} {d : α} (D : Dat τ n) (r : (yLsg τ).rep K H F v xs) (q : τ.rep K H F2 u d) (k : Q (.bl (xs.contains d)) H) (hn : n + 1 ≤ 64 := by decide) : rInD K u v H Q :=
  ⟨_, _, D.dp q, (dat_lsg D).dp r, D.shaped (by omega) d, (dat_lsg D).shaped hn xs, by rw [any_eqv]; exact k⟩
theorem w_niDG [BEq α] [LawfulBEq α] {xs : List α} {d : α} (D : Dat τ n) (r : (yLsg τ).rep K H F v xs) (q : τ.rep K H F2 u d) (k : Q (.bl (!xs.contains d)) H) (hn : n + 1 ≤ 64 := by decide) : rNotInD K u v H Q :=
  ⟨_, _, D.dp q, (dat_lsg D).dp r, D.shaped (by omega) d, (dat_lsg D).shaped hn xs, by rw [any_eqv]; exact k⟩
/-! ### a pair as a tuple of ints -/
theorem pair_tupl {d : Int × Int} (r : yPair.rep K H F v d) : (yTupL yInt).rep K H [] v [d.1, d.2] := by
  obtain ⟨rfl, a, rfl, s⟩ := pair_sq r
  exact ⟨a, _, rfl, rfl, s, .cons ⟨rfl, rfl⟩ (.cons ⟨rfl, rfl⟩ .nil)⟩
/-! ### any, all -/
theorem bools_sqL {xs : List Bool} (r : (yLst yBool).rep K H F v xs) : ∃ a, v = .ref a ∧ SqL K H a (xs.map V.bl) := by
  obtain ⟨a, vs, rfl, s, q⟩ := lst_sq r
  have e : vs = xs.map V.bl := by
    clear s r
    induction q with
    | nil => rfl
    | cons h t ih => obtain ⟨_, rfl⟩ := h; rw [ih]; rfl
  subst e
  exact ⟨a, rfl, s⟩
theorem cl_anyL {K : PySem.W.Frag} (hc : X.calm = true) (e : X.K = K := by rfl) : CallR X (.builtin "any") (rAny K) := by subst e; exact cr_any hc
theorem cl_allL {K : PySem.W.Frag} (hc : X.calm = true) (e : X.K = K := by rfl) : CallR X (.builtin "all") (rAll K) := by subst e; exact cr_all hc
theorem w_anyL {xs : List Bool} (r : (yLst yBool).rep K H F v xs) (k : Q (.bl (xs.any id)) H) : rAny K [v] H Q := by
  obtain ⟨a, rfl, s⟩ := bools_sqL r
  exact ⟨a, xs, rfl, s, k⟩
theorem w_allL {xs : List Bool} (r : (yLst yBool).rep K H F v xs) (k : Q (.bl (xs.all id)) H) : rAll K [v] H Q := by
  obtain ⟨a, rfl, s⟩ := bools_sqL r
  exact ⟨a, xs, rfl, s, k⟩
/-! ### list * int -/
theorem pr_rep {R : V → α → Prop} {vs : List V} {xs : List α} (q : Paired R vs xs) : ∀ k : Nat, Paired R (List.replicate k vs).flatten (List.replicate k xs).flatten
  | 0 => .nil
  | k + 1 => by
    rw [List.replicate_succ, List.replicate_succ, List.flatten_cons, List.flatten_cons]
    exact pr_app q (pr_rep q k)
theorem w_rep {xs zs : List α} (r : (yLst τ).rep K H F v xs) (hm : Mi.repL xs i = some zs) (k : ∀ p H', H p = none → Chg [] H H' → (yLst τ).rep K H' [p] (.ref p) zs → Q (.ref p) H') : rRep v (.int i) H Q := by
  obtain ⟨a, vs, rfl, rfl, g, q⟩ := r
  unfold Mi.repL at hm
  split at hm
  · rename_i hc
    obtain rfl := Option.some.inj hm
    refine ⟨a, i, vs, rfl, rfl, g, by omega, by omega, ?_, fun p np => k p _ np (Chg.new np) ⟨p, _, rfl, rfl, upd_same, ?_⟩⟩
    · rw [Paired.length q]
      exact Nat.le_trans hc.2.2 (by rw [sizeLine_eq]; decide)
    · exact pr_rep (Paired.mapP q fun _ _ z => Ty.ex z (Chg.new np)) i.toNat
  · cases hm
/-! ### list(range(..)) -/
def LrG1 (x : V) (H : Hp) (Q : VK) : Prop := ∃ n, x = .int n ∧ (RgOk 0 n ∧ ∀ q, H q = none → Q (.ref q) (upd H q (.lst (rgV 0 n))))
def LrG2 (x y : V) (H : Hp) (Q : VK) : Prop := ∃ i j, x = .int i ∧ y = .int j ∧ (RgOk i j ∧ ∀ q, H q = none → Q (.ref q) (upd H q (.lst (rgV i j))))
theorem w_lrng1 (h : ta σ H fun x H1 => LrG1 x H1 Q) : tLstRg (tRg1 ta) σ H Q := h
theorem w_lrng2 (h : ta σ H fun x H1 => tb σ H1 fun y H2 => LrG2 x y H2 Q) : tLstRg (tRg2 ta tb) σ H Q := h
theorem rg_ints (a b : Int) : Paired (fun u x => yInt.rep K H [] u x) (rgV a b) (Mi.rng a b) := by
  unfold rgV Mi.rng
  induction List.range (b - a).toNat with
  | nil => exact .nil
  | cons k ks ih => exact .cons ⟨rfl, rfl⟩ ih
theorem rgL_ok {lo hi : Int} {xs : List Int} (hm : Mi.rngL lo hi = some xs) : RgOk lo hi ∧ xs = Mi.rng lo hi := by
  unfold Mi.rngL at hm
  split at hm
  · exact ⟨⟨by omega, by omega, by omega, by omega, by omega⟩, (Option.some.inj hm).symm⟩
  · cases hm
theorem x_lrng {lo hi : Int} {xs : List Int} (hm : Mi.rngL lo hi = some xs) (k : ∀ p H', H p = none → Chg [] H H' → (yLst yInt).rep K H' [p] (.ref p) xs → Q (.ref p) H') : RgOk lo hi ∧ ∀ q, H q = none → Q (.ref q) (upd H q (.lst (rgV lo hi))) := by
  obtain ⟨h1, rfl⟩ := rgL_ok hm
  exact ⟨h1, fun q nq => k q _ nq (Chg.new nq) ⟨q, _, rfl, rfl, upd_same, rg_ints lo hi⟩⟩
theorem x_lrng1 {hi : Int} {xs : List Int} (hm : Mi.rngL 0 hi = some xs) (k : ∀ p H', H p = none → Chg [] H H' → (yLst yInt).rep K H' [p] (.ref p) xs → Q (.ref p) H') : LrG1 (.int hi) H Q := ⟨hi, rfl, x_lrng hm k⟩
theorem x_lrng2 {lo hi : Int} {xs : List Int} (hm : Mi.rngL lo hi = some xs) (k : ∀ p H', H p = none → Chg [] H H' → (yLst yInt).rep K H' [p] (.ref p) xs → Q (.ref p) H') : LrG2 (.int lo) (.int hi) H Q := ⟨lo, hi, rfl, rfl, x_lrng hm k⟩
theorem opt_n : (yOpt τ).rep K H [] .non (none : Option α) := ⟨rfl, rfl⟩
theorem opt_i {d : α} (nn : v ≠ .non) (r : τ.rep K H F v d) : (yOpt τ).rep K H F v (some d) := ⟨nn, r⟩
theorem Ty.freshOr {G Fp : List Addr} {d : α} (r : τ.rep K H F v d) (np : ∀ a ∈ G, H a = none ∨ a ∈ Fp) (dj : Dj F Fp) : Dj F G := fun a h z => by
  rcases np a z with e | e
  · obtain ⟨o, e2, _⟩ := τ.dom r a h
    rw [e] at e2; cases e2
  · exact dj a h e
/-! ### defs with defaults -/
theorem w_callN {n m : Nat} {sp : Sp} {gV : List V → List V → List V} {E : XK} {t tk : TA} (h : t σ H fun vs H1 => tk σ H1 fun zs H2 => vs.length = n ∧ zs.length = m ∧ sp (gV vs zs) H2 Q E) : tCallN n m sp gV E t tk σ H Q := h
end
theorem okD {P : Program} {w : World} {K : PySem.W.Frag} {mg : Str → Option Value} {base : Heap} {x qual : Str} {params : Arguments} {body : List Stmt} {scope : Scope} {dvs : List V} {kws : List (Str × V)} {f : Addr} {fd : FuncData} {N ps : List Str} {k : Nat} {sp : Sp} (F : FunD K x qual params body scope dvs kws f fd) (S : FnScope N ps scope) (len : ∀ vs H Q E, sp vs H Q E → vs.length = ps.length)
    (hbody : ∀ (cdv : Value) (A : Around) (outer : List Env) (s : Shared) (H : Hp) (vs : List V) (Q : VK) (E : XK), Room k (A.deeper (envOfC qual scope s.heap.objs.size f cdv)) → sp vs H Q E →
      ∃ t, PSs (cxOf CX0 P w K mg base N qual scope f cdv A outer s H E).nox body t ∧ t { nx := fun _ H' => Q .non H', rt := Q } (start N vs) H) : FnOk P w K mg base CX0 (k + 1) f fd ps sp :=
  F.ok S len fun cdv A outer s H vs Q E hr hsp => by
    obtain ⟨t, h, q⟩ := hbody cdv A outer s H vs Q E hr hsp
    exact ⟨t, h.nox, q⟩
structure DfnD (K : PySem.W.Frag) (mg : Str → Option Value) (x : Str) (st : Stmt) (dvs : List V) : Prop where
  ex : ∃ f fd, FunD K x x (defArgs st) (defBody st) (defScope st) dvs [] f fd ∧ mg x = some (.ref f)
structure CalD (P : Program) (w : World) (K : PySem.W.Frag) (mg : Str → Option Value) (x : Str) (st : Stmt) (dvs : List V) (ps : List Str) (k : Nat) (sp : Sp) : Prop where
  ex : ∃ f fd, mg x = some (.ref f) ∧ FunD K x x (defArgs st) (defBody st) (defScope st) dvs [] f fd ∧ ∀ base : Heap, FnOk P w K mg base CX0 k f fd ps sp
end G

namespace G
open PySem PySem.Spec PyProof.Rows L2
def topS (i : Nat) : Stmt := PySem.Challenge.pw_fogfleet_k05_arrivals_by_tide.main.body.getD i (.Pass ⟨0, 0, 0, 0⟩)
structure Cs (K : PySem.W.Frag) (mg : Str → Option Value) : Prop where
  c_GREATEST_DEPTH : ∃ t, mg "GREATEST_DEPTH" = some (.int 99 t)
  c_GREATEST_TIDE : ∃ t, mg "GREATEST_TIDE" = some (.int 20 t)
  c_MOST_PLACES : ∃ t, mg "MOST_PLACES" = some (.int 12 t)
  c_MOST_TIDE_NUMBERS : ∃ t, mg "MOST_TIDE_NUMBERS" = some (.int 12 t)
  d_Chart_tide : ∀ H, (yTupL yInt).rep K H [] (.ref (kwdAt ("Chart", some "__init__") "tide" K)) ([0] : List Int)
  d_Chart_harbours : ∀ H, (yTupL yInt).rep K H [] (.ref (kwdAt ("Chart", some "__init__") "harbours" K)) ([] : List Int)
abbrev nm_Chart : List Str := ["size", "depths", "lanes", "tide", "harbours", "joined"]
abbrev ty_Chart : Tys (Int × (List Int) × (List (Int × Int)) × (List Int) × (List Int) × (List (List Int))) := (sCons yInt (sCons (yTupL yInt) (sCons (yTupL (yTup (sCons yInt (sOne yInt)))) (sCons (yTupL yInt) (sCons (yTupL yInt) (sOne (yTupL (yTupL yInt))))))))
abbrev kw_Chart (K : PySem.W.Frag) : List (Str × V) := [("tide", .ref (kwdAt ("Chart", some "__init__") "tide" K)), ("harbours", .ref (kwdAt ("Chart", some "__init__") "harbours" K))]
section
variable {P : Program} {w : World} {K : PySem.W.Frag} {mg : Str → Option Value}
abbrev s_is_zone : Stmt := topS 11
abbrev N_is_zone : List Str := ["zone", "size", "found", "place"]
theorem sc_is_zone : FnScope ["zone", "size", "found", "place"] ["zone", "size"] (defScope s_is_zone) := ⟨rfl, rfl, rfl, by decide +kernel, rfl, by decide +kernel, by decide +kernel⟩
def sp_is_zone (K : PySem.W.Frag) : Sp := fun vs H Q _ => (∃ (v0 : V) (F0 : List Addr) (d0 : (List Int)) (d1 : Int) (r : Bool), vs = [v0, (.int d1)] ∧ (yLst yInt).rep K H F0 v0 d0 ∧ Mi.m_is_zone_0 d0 d1 = some r ∧ ∀ H', Chg ([]) H H' → Q (.bl r) H') ∨ (∃ (v0 : V) (d0 : (List Int)) (d1 : Int) (r : Bool), vs = [v0, (.int d1)] ∧ (yTupL yInt).rep K H [] v0 d0 ∧ Mi.m_is_zone_1 d0 d1 = some r ∧ ∀ H', Chg ([]) H H' → Q (.bl r) H')
theorem ok_is_zone (B : Bi mg) (CN : Cs K mg) (D : Dfn K mg "is_zone" s_is_zone)  : Cal P w K mg "is_zone" ["zone", "size"] 1 (sp_is_zone K) := by
  obtain ⟨f, fd, F, g⟩ := D.ex
  refine ⟨f, fd, g, F.kp, bindsF F (fun _ _ _ _ _ _ us hl => match us, hl with | [_, _], _ => rfl), fun base => F.ok sc_is_zone (fun vs H Q E h => ?_) (fun cdv A outer s H0 vs Q E hr h => ?_)⟩
  · rcases h with ⟨v0, F0, d0, d1, r, rfl, r0, hm, hQ⟩ | ⟨v0, d0, d1, r, rfl, r0, hm, hQ⟩
    all_goals rfl
  · rcases h with h | h
    ·
      obtain ⟨v0, F0, d0, d1, r, rfl, r0, hm, hQ⟩ := h
      refine ⟨_, pss_cons (ps_set (i := 2) sc_is_zone.nd rfl (.inl rfl) (pe_callTy0 (cl_set0 (w := w)) (by rfl) B.set (by decide +kernel)))
      (pss_cons (ps_for PassesOwn.never rfl (pi_list (pv 0)) (pg_name (i := 3) sc_is_zone.nd rfl (.inl rfl)) (pss_cons (ps_if (PW.pt (pw_or (pt_cmpR op_lt (pv 3) pe_int (nomark _)) (pw_or (pt_cmpR op_ge (pv 3) (pv 1) (nomark _)) (pw_or1 (pt_cmpR (op_in_s (w := w)) (pv 3) (pv 2) (by rfl)))))) (pss_cons (ps_ret pe_bl) pss_nil) (pss_nil))
      (pss_cons (ps_expr (pe_sadd (pv 2) (pa_cons (pv 3) pa_nil)))
      (pss_nil))))
      (pss_cons (ps_ret pe_bl) pss_nil)), ?_⟩
      have c0 : Chg ([] : List Addr) H0 H0 := Chg.refl H0
      unfold Mi.m_is_zone_0 at hm
      refine q_asg ?_
      refine w_cb ?_
      refine w_nil ?_
      refine w_set0 (K := K) (w := w) fun p1 H5 np4 c2 r3 => ?_
      have d6 : Dj F0 [p1] := Ty.nin r0 np4
      have n7 : ∀ a ∈ [p1], H0 a = none := one_fresh (c0.dom p1 np4)
      have r0 := Ty.ex r0 c2
      have c0 := c0.trans c2.none
      refine g_name (σ' := [some v0, some (.int d1), some (.ref p1), none]) rfl ?_
      refine q_for ?_
      refine w_iList ?_
      refine c_val (val_var rfl) ?_
      obtain ⟨e8, he8, hm⟩ := Mi.bnd hm
      refine l_lst r0 (fun i σ' H' => ∃ (s9 : (List Int)) (y10 : Option V), σ' = [some v0, some (.int d1), some (.ref p1), y10] ∧ Chg ([] : List Addr) H0 H' ∧ (yLst yInt).rep K H' F0 v0 d0 ∧ (ySet w).rep K H' [p1] (.ref p1) s9 ∧ Mi.forR (Mi.m_is_zone_0_b1 d1) s9 (List.drop i d0) = some e8) ⟨([] : List Int), none, rfl, c0, r0, r3, he8⟩ (fun i σ' H' hp => by obtain ⟨s9, y10, rfl, c0, r0, r3, _⟩ := hp; exact r0) (fun i13 x12 u14 σ' H' hx11 r15 hp => ?_) (fun σ' H' hp => ?_)
      ·
        obtain ⟨s9, y10, rfl, c0, r0, r3, hle8⟩ := hp
        obtain ⟨o16, hbe8, hore8⟩ := Mi.forR_go hle8 hx11
        unfold Mi.m_is_zone_0_b1 at hbe8
        obtain ⟨_, rfl⟩ := r15
        refine g_name (σ' := [some v0, some (.int d1), some (.ref p1), some (.int x12)]) rfl ?_
        refine q_if (ans_orB (ans_t (val_lt (val_var rfl) val_c)) (fun _ => (ans_orB (ans_t (val_ge (val_var rfl) (val_var rfl))) (fun _ => (ans_t (val_inS r3 (val_var rfl) (val_var rfl))))))) (fun hb => ?_) (fun hb => ?_)
        ·
          replace hbe8 := Mi.ifT hb hbe8
          refine q_ret ?_
          refine c_val val_c ?_
          obtain rfl := Option.some.inj hbe8
          obtain rfl := Mi.or_inl hore8
          obtain rfl := Option.some.inj (Mi.orR_inl hm)
          exact hQ _ c0 
        replace hbe8 := Mi.ifF hb hbe8
        refine w_fall ?_
        refine q_drop (w_sadd (c_val (val_var rfl) ⟨tyv_set r3, ?_⟩))
        refine w_args (va_cons (val_var rfl) va_nil) ?_
        obtain ⟨x19, hx19, hbe8⟩ := Mi.bnd hbe8
        refine m_sadd r3 hx19 fun H21 c20 r3 => ?_
        have r0 := Ty.chg r0 c20 d6
        have c0 := c0.join c20 (fun a h => .inr (n7 a h))
        refine w_nextJ ?_
        obtain rfl := Option.some.inj hbe8
        replace hore8 := Mi.or_inr hore8
        exact ⟨_, (some (.int x12)), rfl, c0, r0, r3, hore8⟩
      obtain ⟨s9, y10, rfl, c0, r0, r3, hle8⟩ := hp
      obtain rfl := Mi.forR_end hle8
      replace hm := Mi.orR_inr hm
      refine q_ret ?_
      refine c_val val_c ?_
      obtain rfl := Option.some.inj hm
      exact hQ _ c0 
    ·
      obtain ⟨v0, d0, d1, r, rfl, r0, hm, hQ⟩ := h
      refine ⟨_, pss_cons (ps_set (i := 2) sc_is_zone.nd rfl (.inl rfl) (pe_callTy0 (cl_set0 (w := w)) (by rfl) B.set (by decide +kernel)))
      (pss_cons (ps_for PassesOwn.never rfl (pi_tup (pv 0)) (pg_name (i := 3) sc_is_zone.nd rfl (.inl rfl)) (pss_cons (ps_if (PW.pt (pw_or (pt_cmpR op_lt (pv 3) pe_int (nomark _)) (pw_or (pt_cmpR op_ge (pv 3) (pv 1) (nomark _)) (pw_or1 (pt_cmpR (op_in_s (w := w)) (pv 3) (pv 2) (by rfl)))))) (pss_cons (ps_ret pe_bl) pss_nil) (pss_nil))
      (pss_cons (ps_expr (pe_sadd (pv 2) (pa_cons (pv 3) pa_nil)))
      (pss_nil))))
      (pss_cons (ps_ret pe_bl) pss_nil)), ?_⟩
      have c0 : Chg ([] : List Addr) H0 H0 := Chg.refl H0
      unfold Mi.m_is_zone_1 at hm
      refine q_asg ?_
      refine w_cb ?_
      refine w_nil ?_
      refine w_set0 (K := K) (w := w) fun p1 H5 np4 c2 r3 => ?_
      have n6 : ∀ a ∈ [p1], H0 a = none := one_fresh (c0.dom p1 np4)
      have r0 := Ty.fz r0 c2
      have c0 := c0.trans c2.none
      refine g_name (σ' := [some v0, some (.int d1), some (.ref p1), none]) rfl ?_
      refine q_for ?_
      refine w_iTup ?_
      refine c_val (val_var rfl) ?_
      obtain ⟨e7, he7, hm⟩ := Mi.bnd hm
      refine l_tup r0 (fun i σ' H' => ∃ (s8 : (List Int)) (y9 : Option V), σ' = [some v0, some (.int d1), some (.ref p1), y9] ∧ Chg ([] : List Addr) H0 H' ∧ (yTupL yInt).rep K H' [] v0 d0 ∧ (ySet w).rep K H' [p1] (.ref p1) s8 ∧ Mi.forR (Mi.m_is_zone_1_b1 d1) s8 (List.drop i d0) = some e7) ⟨([] : List Int), none, rfl, c0, r0, r3, he7⟩ (fun i σ' H' hp => by obtain ⟨s8, y9, rfl, c0, r0, r3, _⟩ := hp; exact r0) (fun i12 x11 u13 σ' H' hx10 r14 hp => ?_) (fun σ' H' hp => ?_)
      ·
        obtain ⟨s8, y9, rfl, c0, r0, r3, hle7⟩ := hp
        obtain ⟨o15, hbe7, hore7⟩ := Mi.forR_go hle7 hx10
        unfold Mi.m_is_zone_1_b1 at hbe7
        obtain ⟨_, rfl⟩ := r14
        refine g_name (σ' := [some v0, some (.int d1), some (.ref p1), some (.int x11)]) rfl ?_
        refine q_if (ans_orB (ans_t (val_lt (val_var rfl) val_c)) (fun _ => (ans_orB (ans_t (val_ge (val_var rfl) (val_var rfl))) (fun _ => (ans_t (val_inS r3 (val_var rfl) (val_var rfl))))))) (fun hb => ?_) (fun hb => ?_)
        ·
          replace hbe7 := Mi.ifT hb hbe7
          refine q_ret ?_
          refine c_val val_c ?_
          obtain rfl := Option.some.inj hbe7
          obtain rfl := Mi.or_inl hore7
          obtain rfl := Option.some.inj (Mi.orR_inl hm)
          exact hQ _ c0 
        replace hbe7 := Mi.ifF hb hbe7
        refine w_fall ?_
        refine q_drop (w_sadd (c_val (val_var rfl) ⟨tyv_set r3, ?_⟩))
        refine w_args (va_cons (val_var rfl) va_nil) ?_
        obtain ⟨x18, hx18, hbe7⟩ := Mi.bnd hbe7
        refine m_sadd r3 hx18 fun H20 c19 r3 => ?_
        have r0 := Ty.fz r0 c19
        have c0 := c0.join c19 (fun a h => .inr (n6 a h))
        refine w_nextJ ?_
        obtain rfl := Option.some.inj hbe7
        replace hore7 := Mi.or_inr hore7
        exact ⟨_, (some (.int x11)), rfl, c0, r0, r3, hore7⟩
      obtain ⟨s8, y9, rfl, c0, r0, r3, hle7⟩ := hp
      obtain rfl := Mi.forR_end hle7
      replace hm := Mi.orR_inr hm
      refine q_ret ?_
      refine c_val val_c ?_
      obtain rfl := Option.some.inj hm
      exact hQ _ c0 
abbrev s_good_numbers : Stmt := topS 17
abbrev N_good_numbers : List Str := ["numbers", "most", "greatest", "number"]
theorem sc_good_numbers : FnScope ["numbers", "most", "greatest", "number"] ["numbers", "most", "greatest"] (defScope s_good_numbers) := ⟨rfl, rfl, rfl, by decide +kernel, rfl, by decide +kernel, by decide +kernel⟩
def sp_good_numbers (K : PySem.W.Frag) : Sp := fun vs H Q _ => ∃ (v0 : V) (F0 : List Addr) (d0 : (List Int)) (d1 : Int) (d2 : Int) (r : Bool), vs = [v0, (.int d1), (.int d2)] ∧ (yLst yInt).rep K H F0 v0 d0 ∧ Mi.m_good_numbers d0 d1 d2 = some r ∧ ∀ H', Chg ([]) H H' → Q (.bl r) H'
theorem ok_good_numbers (B : Bi mg) (CN : Cs K mg) (D : Dfn K mg "good_numbers" s_good_numbers)  : Cal P w K mg "good_numbers" ["numbers", "most", "greatest"] 1 (sp_good_numbers K) := by
  obtain ⟨f, fd, F, g⟩ := D.ex
  refine ⟨f, fd, g, F.kp, bindsF F (fun _ _ _ _ _ _ us hl => match us, hl with | [_, _, _], _ => rfl), fun base => F.ok sc_good_numbers (fun vs H Q E h => ?_) (fun cdv A outer s H0 vs Q E hr h => ?_)⟩
  · obtain ⟨v0, F0, d0, d1, d2, r, rfl, r0, hm, hQ⟩ := h; rfl
  ·
    obtain ⟨v0, F0, d0, d1, d2, r, rfl, r0, hm, hQ⟩ := h
    refine ⟨_, pss_cons (ps_if (PW.pt (pw_or (pt_cmpR op_lt (pe_callB (cl_len (K := K)) (by rfl) B.len PySem.boot_len (pa_cons (pv 0) pa_nil)) pe_int (nomark _)) (pw_or1 (pt_cmpR op_gt (pe_callB (cl_len (K := K)) (by rfl) B.len PySem.boot_len (pa_cons (pv 0) pa_nil)) (pv 1) (nomark _))))) (pss_cons (ps_ret pe_bl) pss_nil) (pss_nil))
      (pss_cons (ps_for PassesOwn.never rfl (pi_list (pv 0)) (pg_name (i := 3) sc_good_numbers.nd rfl (.inl rfl)) (pss_cons (ps_if (PW.pt (pw_or (pt_cmpR op_lt (pv 3) pe_int (nomark _)) (pw_or1 (pt_cmpR op_gt (pv 3) (pv 2) (nomark _))))) (pss_cons (ps_ret pe_bl) pss_nil) (pss_nil))
      (pss_nil)))
      (pss_cons (ps_ret pe_bl) pss_nil)), ?_⟩
    have c0 : Chg ([] : List Addr) H0 H0 := Chg.refl H0
    unfold Mi.m_good_numbers at hm
    refine q_if (ans_orB (ans_t (val_lt (val_lenL r0 (val_var rfl)) val_c)) (fun _ => (ans_t (val_gt (val_lenL r0 (val_var rfl)) (val_var rfl))))) (fun hb => ?_) (fun hb => ?_)
    ·
      replace hm := Mi.ifT hb hm
      refine q_ret ?_
      refine c_val val_c ?_
      obtain rfl := Option.some.inj hm
      exact hQ _ c0 
    replace hm := Mi.ifF hb hm
    refine w_fall ?_
    refine q_for ?_
    refine w_iList ?_
    refine c_val (val_var rfl) ?_
    obtain ⟨e2, he2, hm⟩ := Mi.bnd hm
    refine l_lst r0 (fun i σ' H' => ∃ (s3 : Unit) (y4 : Option V), σ' = [some v0, some (.int d1), some (.int d2), y4] ∧ Chg ([] : List Addr) H0 H' ∧ (yLst yInt).rep K H' F0 v0 d0 ∧ Mi.forR (Mi.m_good_numbers_b1 d2) s3 (List.drop i d0) = some e2) ⟨(), none, rfl, c0, r0, he2⟩ (fun i σ' H' hp => by obtain ⟨s3, y4, rfl, c0, r0, _⟩ := hp; exact r0) (fun i7 x6 u8 σ' H' hx5 r9 hp => ?_) (fun σ' H' hp => ?_)
    ·
      obtain ⟨s3, y4, rfl, c0, r0, hle2⟩ := hp
      obtain ⟨o10, hbe2, hore2⟩ := Mi.forR_go hle2 hx5
      unfold Mi.m_good_numbers_b1 at hbe2
      obtain ⟨_, rfl⟩ := r9
      refine g_name (σ' := [some v0, some (.int d1), some (.int d2), some (.int x6)]) rfl ?_
      refine q_if (ans_orB (ans_t (val_lt (val_var rfl) val_c)) (fun _ => (ans_t (val_gt (val_var rfl) (val_var rfl))))) (fun hb => ?_) (fun hb => ?_)
      ·
        replace hbe2 := Mi.ifT hb hbe2
        refine q_ret ?_
        refine c_val val_c ?_
        obtain rfl := Option.some.inj hbe2
        obtain rfl := Mi.or_inl hore2
        obtain rfl := Option.some.inj (Mi.orR_inl hm)
        exact hQ _ c0 
      replace hbe2 := Mi.ifF hb hbe2
      refine w_fall ?_
      refine w_nextJ ?_
      obtain rfl := Option.some.inj hbe2
      replace hore2 := Mi.or_inr hore2
      exact ⟨_, (some (.int x6)), rfl, c0, r0, hore2⟩
    obtain ⟨s3, y4, rfl, c0, r0, hle2⟩ := hp
    obtain rfl := Mi.forR_end hle2
    replace hm := Mi.orR_inr hm
    refine q_ret ?_
    refine c_val val_c ?_
    obtain rfl := Option.some.inj hm
    exact hQ _ c0 
abbrev s_good_depths : Stmt := topS 18
abbrev N_good_depths : List Str := ["depths"]
theorem sc_good_depths : FnScope ["depths"] ["depths"] (defScope s_good_depths) := ⟨rfl, rfl, rfl, by decide +kernel, rfl, by decide +kernel, by decide +kernel⟩
def sp_good_depths (K : PySem.W.Frag) : Sp := fun vs H Q _ => ∃ (v0 : V) (F0 : List Addr) (d0 : (List Int)) (r : Bool), vs = [v0] ∧ (yLst yInt).rep K H F0 v0 d0 ∧ Mi.m_good_depths d0 = some r ∧ ∀ H', Chg ([]) H H' → Q (.bl r) H'
theorem ok_good_depths (B : Bi mg) (CN : Cs K mg) (D : Dfn K mg "good_depths" s_good_depths) (C_good_numbers : Cal P w K mg "good_numbers" ["numbers", "most", "greatest"] 1 (sp_good_numbers K)) : Cal P w K mg "good_depths" ["depths"] 2 (sp_good_depths K) := by
  obtain ⟨f, fd, F, g⟩ := D.ex
  refine ⟨f, fd, g, F.kp, bindsF F (fun _ _ _ _ _ _ us hl => match us, hl with | [_], _ => rfl), fun base => F.ok sc_good_depths (fun vs H Q E h => ?_) (fun cdv A outer s H0 vs Q E hr h => ?_)⟩
  · obtain ⟨v0, F0, d0, r, rfl, r0, hm, hQ⟩ := h; rfl
  ·
    obtain ⟨v0, F0, d0, r, rfl, r0, hm, hQ⟩ := h
    refine ⟨_, pss_cons (ps_ret (pe_cc C_good_numbers hr (pa_cons (pv 0) (pa_cons (pe_glob (v := .int 12) (by rfl) CN.c_MOST_PLACES.choose_spec ⟨_, rfl⟩) (pa_cons (pe_glob (v := .int 99) (by rfl) CN.c_GREATEST_DEPTH.choose_spec ⟨_, rfl⟩) pa_nil))))) pss_nil, ?_⟩
    have c0 : Chg ([] : List Addr) H0 H0 := Chg.refl H0
    unfold Mi.m_good_depths at hm
    refine q_ret ?_
    refine w_call ?_
    refine w_args (va_cons (val_var rfl) (va_cons val_c (va_cons val_c va_nil))) ?_
    obtain ⟨q1, hq1, hm⟩ := Mi.bnd hm
    refine ⟨v0, F0, d0, (12 : Int), (99 : Int), q1, rfl, r0, hq1, fun H3 c2  => ?_⟩
    have r0 := Ty.ex r0 c2
    have c0 := c0.trans c2.none
    obtain rfl := Option.some.inj hm
    exact hQ _ c0 
abbrev s_good_lanes : Stmt := topS 19
abbrev N_good_lanes : List Str := ["lanes", "size", "known", "one", "other", "low", "high"]
theorem sc_good_lanes : FnScope ["lanes", "size", "known", "one", "other", "low", "high"] ["lanes", "size"] (defScope s_good_lanes) := ⟨rfl, rfl, rfl, by decide +kernel, rfl, by decide +kernel, by decide +kernel⟩
def sp_good_lanes (K : PySem.W.Frag) : Sp := fun vs H Q _ => ∃ (v0 : V) (F0 : List Addr) (d0 : (List (Int × Int))) (d1 : Int) (r : Bool), vs = [v0, (.int d1)] ∧ (yLst (yTup (sCons yInt (sOne yInt)))).rep K H F0 v0 d0 ∧ Mi.m_good_lanes d0 d1 = some r ∧ ∀ H', Chg ([]) H H' → Q (.bl r) H'
theorem ok_good_lanes (B : Bi mg) (CN : Cs K mg) (D : Dfn K mg "good_lanes" s_good_lanes)  : Cal P w K mg "good_lanes" ["lanes", "size"] 1 (sp_good_lanes K) := by
  obtain ⟨f, fd, F, g⟩ := D.ex
  refine ⟨f, fd, g, F.kp, bindsF F (fun _ _ _ _ _ _ us hl => match us, hl with | [_, _], _ => rfl), fun base => F.ok sc_good_lanes (fun vs H Q E h => ?_) (fun cdv A outer s H0 vs Q E hr h => ?_)⟩
  · obtain ⟨v0, F0, d0, d1, r, rfl, r0, hm, hQ⟩ := h; rfl
  ·
    obtain ⟨v0, F0, d0, d1, r, rfl, r0, hm, hQ⟩ := h
    refine ⟨_, pss_cons (ps_set (i := 2) sc_good_lanes.nd rfl (.inl rfl) (pe_callTy0 (cl_setP0 (P := P) (w := w)) (by rfl) B.set (by decide +kernel)))
      (pss_cons (ps_for PassesOwn.never rfl (pi_list (pv 0)) (pg_tupk (K := K) (n := 2) rfl (pgs_cons (pg_name (i := 3) sc_good_lanes.nd rfl (.inl rfl)) (pgs_cons (pg_name (i := 4) sc_good_lanes.nd rfl (.inl rfl)) pgs_nil))) (pss_cons (ps_set (i := 5) sc_good_lanes.nd rfl (.inl rfl) (pe_callB (cl_min2 rfl) (by rfl) B.min (by decide +kernel) (pa_cons (pv 3) (pa_cons (pv 4) pa_nil))))
      (pss_cons (ps_set (i := 6) sc_good_lanes.nd rfl (.inl rfl) (pe_callB (cl_max2 rfl) (by rfl) B.max (by decide +kernel) (pa_cons (pv 3) (pa_cons (pv 4) pa_nil))))
      (pss_cons (ps_if (PW.pt (pw_or (pt_cmpR op_lt (pv 5) pe_int (nomark _)) (pw_or (pt_cmpR op_ge (pv 6) (pv 1) (nomark _)) (pw_or (pt_cmpR op_eq (pv 5) (pv 6) (nomark _)) (pw_or1 (pt_cmpR (op_inP (K := K) (P := P) (w := w) hr.units) (pe_tup (pa_cons (pv 5) (pa_cons (pv 6) pa_nil))) (pv 2) (by rfl))))))) (pss_cons (ps_ret pe_bl) pss_nil) (pss_nil))
      (pss_cons (ps_expr (pe_saddP (K := K) (P := P) (w := w) hr.units (pv 2) (pa_cons (pe_tup (pa_cons (pv 5) (pa_cons (pv 6) pa_nil))) pa_nil)))
      (pss_nil))))))
      (pss_cons (ps_ret pe_bl) pss_nil)), ?_⟩
    have c0 : Chg ([] : List Addr) H0 H0 := Chg.refl H0
    unfold Mi.m_good_lanes at hm
    refine q_asg ?_
    refine w_cb ?_
    refine w_nil ?_
    refine w_setP0 (K := K) (P := P) (w := w) fun p1 H5 np4 c2 r3 => ?_
    have d6 : Dj F0 [p1] := Ty.nin r0 np4
    have n7 : ∀ a ∈ [p1], H0 a = none := one_fresh (c0.dom p1 np4)
    have r0 := Ty.ex r0 c2
    have c0 := c0.trans c2.none
    refine g_name (σ' := [some v0, some (.int d1), some (.ref p1), none, none, none, none]) rfl ?_
    refine q_for ?_
    refine w_iList ?_
    refine c_val (val_var rfl) ?_
    obtain ⟨e8, he8, hm⟩ := Mi.bnd hm
    refine l_lst r0 (fun i σ' H' => ∃ (s9 : (List (Int × Int))) (y10 : Option V) (y11 : Option V) (y12 : Option V) (y13 : Option V), σ' = [some v0, some (.int d1), some (.ref p1), y10, y11, y12, y13] ∧ Chg ([] : List Addr) H0 H' ∧ (yLst (yTup (sCons yInt (sOne yInt)))).rep K H' F0 v0 d0 ∧ (ySetP P w).rep K H' [p1] (.ref p1) s9 ∧ Mi.forR (Mi.m_good_lanes_b1 d1) s9 (List.drop i d0) = some e8) ⟨([] : List (Int × Int)), none, none, none, none, rfl, c0, r0, r3, he8⟩ (fun i σ' H' hp => by obtain ⟨s9, y10, y11, y12, y13, rfl, c0, r0, r3, _⟩ := hp; exact r0) (fun i16 x15 u17 σ' H' hx14 r18 hp => ?_) (fun σ' H' hp => ?_)
    ·
      obtain ⟨s9, y10, y11, y12, y13, rfl, c0, r0, r3, hle8⟩ := hp
      obtain ⟨o19, hbe8, hore8⟩ := Mi.forR_go hle8 hx14
      unfold Mi.m_good_lanes_b1 at hbe8
      refine g_tup2 r18 fun u20 u21 r22 r23 => ?_
      obtain ⟨_, rfl⟩ := r22
      obtain ⟨_, rfl⟩ := r23
      refine g_names (σ' := [some v0, some (.int d1), some (.ref p1), some (.int x15.1), some (.int x15.2), y12, y13]) rfl ?_
      obtain ⟨low24, hlow24, hbe8⟩ := Mi.letE hbe8
      refine q_setE (val_min2 (val_var rfl) (val_var rfl)) (congrArg V.int hlow24) (σ' := [some v0, some (.int d1), some (.ref p1), some (.int x15.1), some (.int x15.2), some (.int low24), y13]) rfl ?_
      obtain ⟨high25, hhigh25, hbe8⟩ := Mi.letE hbe8
      refine q_setE (val_max2 (val_var rfl) (val_var rfl)) (congrArg V.int hhigh25) (σ' := [some v0, some (.int d1), some (.ref p1), some (.int x15.1), some (.int x15.2), some (.int low24), some (.int high25)]) rfl ?_
      refine q_ifS ?_
      obtain ⟨b26, hb26, hbe8⟩ := Mi.bnd hbe8
      refine j_tt b26 (R := fun H' => Chg ([] : List Addr) H0 H' ∧ (yLst (yTup (sCons yInt (sOne yInt)))).rep K H' F0 v0 d0 ∧ (ySetP P w).rep K H' [p1] (.ref p1) s9) (fun Q' kq => ?_) (fun H' hj => ?_)
      ·
        refine w_or ?_
        refine c_ans (ans_t (val_lt (val_var rfl) val_c)) ?_
        refine c_if (fun hb => ?_) (fun hb => ?_)
        ·
          replace hb26 := Mi.ifT hb hb26
          obtain rfl := Option.some.inj hb26
          exact kq _ ⟨c0, r0, r3⟩
        replace hb26 := Mi.ifF hb hb26
        refine w_or ?_
        refine c_ans (ans_t (val_ge (val_var rfl) (val_var rfl))) ?_
        refine c_if (fun hb => ?_) (fun hb => ?_)
        ·
          replace hb26 := Mi.ifT hb hb26
          obtain rfl := Option.some.inj hb26
          exact kq _ ⟨c0, r0, r3⟩
        replace hb26 := Mi.ifF hb hb26
        refine w_or ?_
        refine c_ans (ans_t (val_eqI (val_var rfl) (val_var rfl))) ?_
        refine c_if (fun hb => ?_) (fun hb => ?_)
        ·
          replace hb26 := Mi.ifT hb hb26
          obtain rfl := Option.some.inj hb26
          exact kq _ ⟨c0, r0, r3⟩
        replace hb26 := Mi.ifF hb hb26
        refine w_test ?_
        refine w_op ?_
        refine w_tup ?_
        refine w_args (va_cons (val_var rfl) (va_cons (val_var rfl) va_nil)) ?_
        refine e_tup (K := K) (ty := (sCons yInt (sOne yInt))) (F := []) (d := (low24, high25)) (by exact Nat.le_of_ble_eq_true rfl) ⟨_, _, _, _, rfl, rfl, yInt_i, ⟨_, rfl, yInt_i⟩⟩ fun p27 H31 np30 c28 r29 => ?_
        have r0 := Ty.ex r0 c28
        have r3 := Ty.ex r3 c28
        have c0 := c0.trans c28.none
        refine c_val (val_var rfl) ?_
        refine w_inP r3 r29 ?_
        refine ⟨_, rfl, ?_⟩
        obtain rfl := Option.some.inj hb26
        exact kq _ ⟨c0, r0, r3⟩
      obtain ⟨c0, r0, r3⟩ := hj
      refine c_if (fun hb => ?_) (fun hb => ?_)
      ·
        replace hbe8 := Mi.ifT hb hbe8
        refine q_ret ?_
        refine c_val val_c ?_
        obtain rfl := Option.some.inj hbe8
        obtain rfl := Mi.or_inl hore8
        obtain rfl := Option.some.inj (Mi.orR_inl hm)
        exact hQ _ c0 
      replace hbe8 := Mi.ifF hb hbe8
      refine w_fall ?_
      refine q_drop (w_badd (c_val (val_var rfl) ⟨tyv_setP r3, ?_⟩))
      refine w_cons ?_
      refine w_tup ?_
      refine w_args (va_cons (val_var rfl) (va_cons (val_var rfl) va_nil)) ?_
      refine e_tup (K := K) (ty := (sCons yInt (sOne yInt))) (F := []) (d := (low24, high25)) (by exact Nat.le_of_ble_eq_true rfl) ⟨_, _, _, _, rfl, rfl, yInt_i, ⟨_, rfl, yInt_i⟩⟩ fun p32 H36 np35 c33 r34 => ?_
      have r0 := Ty.ex r0 c33
      have r3 := Ty.ex r3 c33
      have c0 := c0.trans c33.none
      refine w_nil ?_
      obtain ⟨x37, hx37, hbe8⟩ := Mi.bnd hbe8
      refine m_saddP r3 r34 hx37 fun H39 c38 r3 => ?_
      have r0 := Ty.chg r0 c38 d6
      have c0 := c0.join c38 (fun a h => .inr (n7 a h))
      refine w_nextJ ?_
      obtain rfl := Option.some.inj hbe8
      replace hore8 := Mi.or_inr hore8
      exact ⟨_, (some (.int x15.1)), (some (.int x15.2)), (some (.int low24)), (some (.int high25)), rfl, c0, r0, r3, hore8⟩
    obtain ⟨s9, y10, y11, y12, y13, rfl, c0, r0, r3, hle8⟩ := hp
    obtain rfl := Mi.forR_end hle8
    replace hm := Mi.orR_inr hm
    refine q_ret ?_
    refine c_val val_c ?_
    obtain rfl := Option.some.inj hm
    exact hQ _ c0 
abbrev s_good_tide : Stmt := topS 20
abbrev N_good_tide : List Str := ["tide"]
theorem sc_good_tide : FnScope ["tide"] ["tide"] (defScope s_good_tide) := ⟨rfl, rfl, rfl, by decide +kernel, rfl, by decide +kernel, by decide +kernel⟩
def sp_good_tide (K : PySem.W.Frag) : Sp := fun vs H Q _ => ∃ (v0 : V) (F0 : List Addr) (d0 : (List Int)) (r : Bool), vs = [v0] ∧ (yLst yInt).rep K H F0 v0 d0 ∧ Mi.m_good_tide d0 = some r ∧ ∀ H', Chg ([]) H H' → Q (.bl r) H'
theorem ok_good_tide (B : Bi mg) (CN : Cs K mg) (D : Dfn K mg "good_tide" s_good_tide) (C_good_numbers : Cal P w K mg "good_numbers" ["numbers", "most", "greatest"] 1 (sp_good_numbers K)) : Cal P w K mg "good_tide" ["tide"] 2 (sp_good_tide K) := by
  obtain ⟨f, fd, F, g⟩ := D.ex
  refine ⟨f, fd, g, F.kp, bindsF F (fun _ _ _ _ _ _ us hl => match us, hl with | [_], _ => rfl), fun base => F.ok sc_good_tide (fun vs H Q E h => ?_) (fun cdv A outer s H0 vs Q E hr h => ?_)⟩
  · obtain ⟨v0, F0, d0, r, rfl, r0, hm, hQ⟩ := h; rfl
  ·
    obtain ⟨v0, F0, d0, r, rfl, r0, hm, hQ⟩ := h
    refine ⟨_, pss_cons (ps_ret (pe_cc C_good_numbers hr (pa_cons (pv 0) (pa_cons (pe_glob (v := .int 12) (by rfl) CN.c_MOST_TIDE_NUMBERS.choose_spec ⟨_, rfl⟩) (pa_cons (pe_glob (v := .int 20) (by rfl) CN.c_GREATEST_TIDE.choose_spec ⟨_, rfl⟩) pa_nil))))) pss_nil, ?_⟩
    have c0 : Chg ([] : List Addr) H0 H0 := Chg.refl H0
    unfold Mi.m_good_tide at hm
    refine q_ret ?_
    refine w_call ?_
    refine w_args (va_cons (val_var rfl) (va_cons val_c (va_cons val_c va_nil))) ?_
    obtain ⟨q1, hq1, hm⟩ := Mi.bnd hm
    refine ⟨v0, F0, d0, (12 : Int), (20 : Int), q1, rfl, r0, hq1, fun H3 c2  => ?_⟩
    have r0 := Ty.ex r0 c2
    have c0 := c0.trans c2.none
    obtain rfl := Option.some.inj hm
    exact hQ _ c0 
abbrev s_good_harbours : Stmt := topS 21
abbrev N_good_harbours : List Str := ["harbours", "size"]
theorem sc_good_harbours : FnScope ["harbours", "size"] ["harbours", "size"] (defScope s_good_harbours) := ⟨rfl, rfl, rfl, by decide +kernel, rfl, by decide +kernel, by decide +kernel⟩
def sp_good_harbours (K : PySem.W.Frag) : Sp := fun vs H Q _ => ∃ (v0 : V) (F0 : List Addr) (d0 : (List Int)) (d1 : Int) (r : Bool), vs = [v0, (.int d1)] ∧ (yLst yInt).rep K H F0 v0 d0 ∧ Mi.m_good_harbours d0 d1 = some r ∧ ∀ H', Chg ([]) H H' → Q (.bl r) H'
theorem ok_good_harbours (B : Bi mg) (CN : Cs K mg) (D : Dfn K mg "good_harbours" s_good_harbours) (C_is_zone : Cal P w K mg "is_zone" ["zone", "size"] 1 (sp_is_zone K)) : Cal P w K mg "good_harbours" ["harbours", "size"] 2 (sp_good_harbours K) := by
  obtain ⟨f, fd, F, g⟩ := D.ex
  refine ⟨f, fd, g, F.kp, bindsF F (fun _ _ _ _ _ _ us hl => match us, hl with | [_, _], _ => rfl), fun base => F.ok sc_good_harbours (fun vs H Q E h => ?_) (fun cdv A outer s H0 vs Q E hr h => ?_)⟩
  · obtain ⟨v0, F0, d0, d1, r, rfl, r0, hm, hQ⟩ := h; rfl
  ·
    obtain ⟨v0, F0, d0, d1, r, rfl, r0, hm, hQ⟩ := h
    refine ⟨_, pss_cons (ps_ret (pe_cc C_is_zone hr (pa_cons (pv 0) (pa_cons (pv 1) pa_nil)))) pss_nil, ?_⟩
    have c0 : Chg ([] : List Addr) H0 H0 := Chg.refl H0
    unfold Mi.m_good_harbours at hm
    refine q_ret ?_
    refine w_call ?_
    refine w_args (va_cons (val_var rfl) (va_cons (val_var rfl) va_nil)) ?_
    obtain ⟨q1, hq1, hm⟩ := Mi.bnd hm
    refine Or.inl ⟨v0, F0, d0, d1, q1, rfl, r0, hq1, fun H3 c2  => ?_⟩
    have r0 := Ty.ex r0 c2
    have c0 := c0.trans c2.none
    obtain rfl := Option.some.inj hm
    exact hQ _ c0 
abbrev s_ordered_lanes : Stmt := topS 22
abbrev N_ordered_lanes : List Str := ["lanes", "one", "other"]
theorem sc_ordered_lanes : FnScope ["lanes", "one", "other"] ["lanes"] (defScope s_ordered_lanes) := ⟨rfl, rfl, rfl, by decide +kernel, rfl, by decide +kernel, by decide +kernel⟩
def sp_ordered_lanes (K : PySem.W.Frag) : Sp := fun vs H Q _ => ∃ (v0 : V) (F0 : List Addr) (d0 : (List (Int × Int))) (r : (List (Int × Int))), vs = [v0] ∧ (yLst (yTup (sCons yInt (sOne yInt)))).rep K H F0 v0 d0 ∧ Mi.m_ordered_lanes d0 = some r ∧ ∀ v H', Chg ([]) H H' → (yTupL (yTup (sCons yInt (sOne yInt)))).rep K H' [] v r → Q v H'
theorem ok_ordered_lanes (B : Bi mg) (CN : Cs K mg) (D : Dfn K mg "ordered_lanes" s_ordered_lanes)  : Cal P w K mg "ordered_lanes" ["lanes"] 1 (sp_ordered_lanes K) := by
  obtain ⟨f, fd, F, g⟩ := D.ex
  refine ⟨f, fd, g, F.kp, bindsF F (fun _ _ _ _ _ _ us hl => match us, hl with | [_], _ => rfl), fun base => F.ok sc_ordered_lanes (fun vs H Q E h => ?_) (fun cdv A outer s H0 vs Q E hr h => ?_)⟩
  · obtain ⟨v0, F0, d0, r, rfl, r0, hm, hQ⟩ := h; rfl
  ·
    obtain ⟨v0, F0, d0, r, rfl, r0, hm, hQ⟩ := h
    refine ⟨_, pss_cons (ps_ret (pe_callTy (cl_tuple (K := K)) (by rfl) B.tuple (by decide +kernel) (pa_cons (pe_callB (cl_sortP (K := K)) (by rfl) B.sorted (by decide +kernel) (pa_cons (pe_lc (own := [("one", 1), ("other", 2)]) rfl sc_ordered_lanes.nd (pi_list (pv 0)) (blkOk_by (own := [("one", 1), ("other", 2)]) (N := N_ordered_lanes) (sc := defScope s_ordered_lanes) (by decide +kernel)) (fun _ _ _ _ _ => (pg_tupk (K := K) (n := 2) rfl (pgs_cons (pg_name (i := 1) sc_ordered_lanes.nd rfl (.inl rfl)) (pgs_cons (pg_name (i := 2) sc_ordered_lanes.nd rfl (.inl rfl)) pgs_nil)))) (fun _ _ _ _ _ => pts_nil) (fun _ _ _ _ _ => (pe_tup (pa_cons (pe_callB (cl_min2 rfl) (by rfl) B.min (by decide +kernel) (pa_cons (pv 1) (pa_cons (pv 2) pa_nil))) (pa_cons (pe_callB (cl_max2 rfl) (by rfl) B.max (by decide +kernel) (pa_cons (pv 1) (pa_cons (pv 2) pa_nil))) pa_nil))))) pa_nil)) pa_nil))) pss_nil, ?_⟩
    have c0 : Chg ([] : List Addr) H0 H0 := Chg.refl H0
    unfold Mi.m_ordered_lanes at hm
    refine q_ret ?_
    refine w_cb ?_
    refine w_cons ?_
    refine w_cb ?_
    refine w_cons ?_
    refine w_lc ?_
    refine w_iList ?_
    refine c_val (val_var rfl) ?_
    obtain ⟨e1, he1, hm⟩ := Mi.bnd hm
    refine kc_lst (K := K) (τ := (yTup (sCons yInt (sOne yInt)))) r0 (fun D3 i H' => ∃ (s2 : (List (Int × Int))), Chg ([] : List Addr) H0 H' ∧ (yLst (yTup (sCons yInt (sOne yInt)))).rep K H' F0 v0 d0 ∧ (yLst (yTup (sCons yInt (sOne yInt)))).rep K H' [D3] (.ref D3) s2 ∧ Dj F0 [D3] ∧ (∀ a ∈ [D3], H0 a = none) ∧ Mi.forN (Mi.m_ordered_lanes_b1) s2 (List.drop i d0) = some e1) (fun D3 H9 np8 c7 r4 => ⟨([] : (List (Int × Int))), c0.trans c7.none, (Ty.ex r0 c7), r4, Ty.nin r0 np8, one_fresh (c0.dom D3 np8), he1⟩) (fun D3 i H' hp => by obtain ⟨s2, c0, r0, r4, d5, n6, _⟩ := hp; exact r0) (fun D3 i12 x11 u14 H13 hx10 r15 hp => ?_) (fun D3 H' np8 hp => ?_)
    ·
      obtain ⟨s2, c0, r0, r4, d5, n6, hle1⟩ := hp
      obtain ⟨_, hbe1, hle1⟩ := Mi.forN_go hle1 hx10
      unfold Mi.m_ordered_lanes_b1 at hbe1
      refine g_tup2 r15 fun u18 u19 r20 r21 => ?_
      obtain ⟨_, rfl⟩ := r20
      obtain ⟨_, rfl⟩ := r21
      refine ⟨rfl, ?_⟩
      refine st_eqT (σ' := [some v0, some (.int x11.1), some (.int x11.2)]) rfl ?_
      refine w_yes ?_
      refine iteT ?_
      refine w_tup ?_
      refine w_args (va_cons (val_min2 (val_var rfl) (val_var rfl)) (va_cons (val_max2 (val_var rfl) (val_var rfl)) va_nil)) ?_
      refine e_tup (K := K) (ty := (sCons yInt (sOne yInt))) (F := []) (d := ((min x11.1 x11.2), (max x11.1 x11.2))) (by exact Nat.le_of_ble_eq_true rfl) ⟨_, _, _, _, rfl, rfl, yInt_i, ⟨_, rfl, yInt_i⟩⟩ fun p22 H26 np25 c23 r24 => ?_
      have r0 := Ty.ex r0 c23
      have r4 := Ty.ex r4 c23
      have c0 := c0.trans c23.none
      obtain ⟨x27, hx27, hbe1⟩ := Mi.bnd hbe1
      refine e_app r4 r24 hx27 fun H29 c28 r4 => ?_
      have r0 := Ty.chg r0 c28 d5
      have c0 := c0.join c28 (fun a h => .inr (n6 a h))
      obtain rfl := Option.some.inj hbe1
      exact ⟨x27, c0, r0, r4, d5, n6, hle1⟩
    obtain ⟨s2, c0, r0, r4, d5, n6, hle1⟩ := hp
    obtain rfl := Mi.forN_end hle1
    refine w_nil ?_
    refine w_sortedP r4 fun p30 H34 np33 c31 r32 => ?_
    have d35 : Dj F0 [p30] := Ty.nin r0 np33
    have d36 : Dj [D3] [p30] := Ty.nin r4 np33
    have n37 : ∀ a ∈ [p30], H0 a = none := one_fresh (c0.dom p30 np33)
    have r0 := Ty.ex r0 c31
    have r4 := Ty.ex r4 c31
    have c0 := c0.trans c31.none
    refine w_nil ?_
    refine w_tupleL r32 fun v38 H39 c40 r41 => ?_
    have r0 := Ty.ex r0 c40
    have r32 := Ty.ex r32 c40
    have c0 := c0.trans c40.none
    obtain rfl := Option.some.inj hm
    exact hQ _ _ c0 r41 
abbrev s_joined_places : Stmt := topS 23
abbrev N_joined_places : List Str := ["size", "lanes", "rows", "low", "high", "place", "row"]
theorem sc_joined_places : FnScope ["size", "lanes", "rows", "low", "high", "place", "row"] ["size", "lanes"] (defScope s_joined_places) := ⟨rfl, rfl, rfl, by decide +kernel, rfl, by decide +kernel, by decide +kernel⟩
def sp_joined_places (K : PySem.W.Frag) : Sp := fun vs H Q _ => ∃ (d0 : Int) (v1 : V) (d1 : (List (Int × Int))) (r : (List (List Int))), vs = [(.int d0), v1] ∧ (yTupL (yTup (sCons yInt (sOne yInt)))).rep K H [] v1 d1 ∧ Mi.m_joined_places d0 d1 = some r ∧ ∀ v H', Chg ([]) H H' → (yTupL (yTupL yInt)).rep K H' [] v r → Q v H'
theorem ok_joined_places (B : Bi mg) (CN : Cs K mg) (D : Dfn K mg "joined_places" s_joined_places)  : Cal P w K mg "joined_places" ["size", "lanes"] 1 (sp_joined_places K) := by
  obtain ⟨f, fd, F, g⟩ := D.ex
  refine ⟨f, fd, g, F.kp, bindsF F (fun _ _ _ _ _ _ us hl => match us, hl with | [_, _], _ => rfl), fun base => F.ok sc_joined_places (fun vs H Q E h => ?_) (fun cdv A outer s H0 vs Q E hr h => ?_)⟩
  · obtain ⟨d0, v1, d1, r, rfl, r1, hm, hQ⟩ := h; rfl
  ·
    obtain ⟨d0, v1, d1, r, rfl, r1, hm, hQ⟩ := h
    refine ⟨_, pss_cons (ps_setLc (i := 2) (own := [("place", 5)]) rfl sc_joined_places.nd rfl rfl (sw_true rfl rfl rfl (by decide +kernel)) (pi_range1 (by rfl) B.range (pa_cons (pv 0) pa_nil)) (blkOk_by (own := [("place", 5)]) (N := N_joined_places) (sc := defScope s_joined_places) (by decide +kernel)) (fun _ _ _ _ _ => (pg_name (i := 5) sc_joined_places.nd rfl (.inl rfl))) (fun _ _ _ _ _ => pts_nil) (fun _ _ _ _ _ => (pe_lst pa_nil)))
      (pss_cons (ps_for PassesOwn.never rfl (pi_tup (pv 1)) (pg_tupk (K := K) (n := 2) rfl (pgs_cons (pg_name (i := 3) sc_joined_places.nd rfl (.inl rfl)) (pgs_cons (pg_name (i := 4) sc_joined_places.nd rfl (.inl rfl)) pgs_nil))) (pss_cons (ps_expr (pe_bm PySem.F.plainAttrs_list PySem.F.slot_list_append PySem.F.type_list_append mt_append (pe_ix (ix_l (K := K)) (pv 2) (pv 3) (fun _ _ => rfl)) (pa_cons (pv 4) pa_nil)))
      (pss_cons (ps_expr (pe_bm PySem.F.plainAttrs_list PySem.F.slot_list_append PySem.F.type_list_append mt_append (pe_ix (ix_l (K := K)) (pv 2) (pv 4) (fun _ _ => rfl)) (pa_cons (pv 3) pa_nil)))
      (pss_nil))))
      (pss_cons (ps_ret (pe_callTy (cl_tuple (K := K)) (by rfl) B.tuple (by decide +kernel) (pa_cons (pe_lc (own := [("row", 6)]) rfl sc_joined_places.nd (pi_list (pv 2)) (blkOk_by (own := [("row", 6)]) (N := N_joined_places) (sc := defScope s_joined_places) (by decide +kernel)) (fun _ _ _ _ _ => (pg_name (i := 6) sc_joined_places.nd rfl (.inl rfl))) (fun _ _ _ _ _ => pts_nil) (fun _ _ _ _ _ => (pe_callTy (cl_tuple (K := K)) (by rfl) B.tuple (by decide +kernel) (pa_cons (pv 6) pa_nil)))) pa_nil))) pss_nil)), ?_⟩
    have c0 : Chg ([] : List Addr) H0 H0 := Chg.refl H0
    unfold Mi.m_joined_places at hm
    refine q_asg ?_
    refine w_lc ?_
    refine w_iRng1 ?_
    refine w_args (va_cons (val_var rfl) va_nil) ?_
    obtain ⟨g1, hg1, hm⟩ := Mi.bnd hm
    obtain ⟨e2, he2, hm⟩ := Mi.bnd hm
    refine kc_rng1 (K := K) (τ := yInt) hg1 (fun D4 i H' => ∃ (s3 : (List (List Int))) (F6 : List Addr), Chg ([] : List Addr) H0 H' ∧ (yTupL (yTup (sCons yInt (sOne yInt)))).rep K H' [] v1 d1 ∧ (yOwn (yLst yInt)).rep K H' F6 (.ref D4) s3 ∧ (∀ a ∈ F6, H0 a = none) ∧ Mi.forN (Mi.m_joined_places_b1) s3 (List.drop i g1) = some e2) (fun D4 H10 np9 c8 r5 => ⟨([] : (List (List Int))), [D4], c0.trans c8.none, (Ty.fz r1 c8), own_nil r5, one_fresh (c0.dom D4 np9), he2⟩) (fun D4 i13 x12 H14 hx11 hp => ?_) (fun D4 H' np9 hp => ?_)
    ·
      obtain ⟨s3, F6, c0, r1, r5, n7, hle2⟩ := hp
      obtain ⟨_, hbe2, hle2⟩ := Mi.forN_go hle2 hx11
      unfold Mi.m_joined_places_b1 at hbe2
      refine g_name (σ' := [some (.int d0), some v1, none, none, none, some (.int x12), none]) rfl ?_
      refine ⟨rfl, ?_⟩
      refine w_yes ?_
      refine iteT ?_
      refine w_lst ?_
      refine w_args va_nil ?_
      refine e_lst (K := K) (τ := yInt) (by exact Nat.le_of_ble_eq_true rfl) .nil fun p19 H23 np22 c20 r21 => ?_
      have d24 : Dj F6 [p19] := Ty.nin r5 np22
      have n25 : ∀ a ∈ [p19], H0 a = none := one_fresh (c0.dom p19 np22)
      have r1 := Ty.fz r1 c20
      have r5 := Ty.ex r5 c20
      have c0 := c0.trans c20.none
      obtain ⟨x26, hx26, hbe2⟩ := Mi.bnd hbe2
      refine e_appO r5 r21 (d24) (lst_nd r21) hx26 fun H30 F31 c29 r5 sa32 sb33 => ?_
      have r1 := Ty.fz r1 c29
      have r21 := Ty.chg r21 c29 d24.symm
      have c0 := c0.join c29 (fun a h => .inr (n7 a h))
      have n34 : ∀ a ∈ F31, H0 a = none := fresh_grow n7 n25 sb33
      obtain rfl := Option.some.inj hbe2
      exact ⟨x26, F31, c0, r1, r5, n34, hle2⟩
    obtain ⟨s3, F6, c0, r1, r5, n7, hle2⟩ := hp
    obtain rfl := Mi.forN_end hle2
    refine g_name (σ' := [some (.int d0), some v1, some (.ref D4), none, none, none, none]) rfl ?_
    refine q_for ?_
    refine w_iTup ?_
    refine c_val (val_var rfl) ?_
    obtain ⟨e35, he35, hm⟩ := Mi.bnd hm
    refine l_tup r1 (fun i σ' H' => ∃ (s36 : (List (List Int))) (y41 : Option V) (y42 : Option V) (v37 : V) (F39 : List Addr), σ' = [some (.int d0), some v1, some v37, y41, y42, none, none] ∧ Chg ([] : List Addr) H0 H' ∧ (yTupL (yTup (sCons yInt (sOne yInt)))).rep K H' [] v1 d1 ∧ (yOwn (yLst yInt)).rep K H' F39 v37 s36 ∧ (∀ a ∈ F39, H0 a = none) ∧ Mi.forN (Mi.m_joined_places_b2) s36 (List.drop i d1) = some e35) ⟨s3, none, none, (.ref D4), F6, rfl, c0, r1, r5, n7, he35⟩ (fun i σ' H' hp => by obtain ⟨s36, y41, y42, v37, F39, rfl, c0, r1, r38, n40, _⟩ := hp; exact r1) (fun i45 x44 u46 σ' H' hx43 r47 hp => ?_) (fun σ' H' hp => ?_)
    ·
      obtain ⟨s36, y41, y42, v37, F39, rfl, c0, r1, r38, n40, hle35⟩ := hp
      obtain ⟨_, hbe35, hle35⟩ := Mi.forN_go hle35 hx43
      unfold Mi.m_joined_places_b2 at hbe35
      refine g_tup2 r47 fun u48 u49 r50 r51 => ?_
      obtain ⟨_, rfl⟩ := r50
      obtain ⟨_, rfl⟩ := r51
      refine g_names (σ' := [some (.int d0), some v1, some v37, some (.int x44.1), some (.int x44.2), none, none]) rfl ?_
      obtain ⟨x52, hx52, hbe35⟩ := Mi.bnd hbe35
      obtain ⟨x53, hx53, hbe35⟩ := Mi.bnd hbe35
      obtain ⟨u54, tu55, kx56, ku57, ka58⟩ := itm_O r38 hx52
      refine q_drop (w_bm (c_val (ku57 (val_var rfl) (val_var rfl)) ⟨tu55, w_args (va_cons (val_var rfl) va_nil) ?_⟩))
      refine ka58 yInt_i hx53 fun H60 c59 r38 => ?_
      have r1 := Ty.fz r1 c59
      have c0 := c0.join c59 (fun a h => .inr (n40 a h))
      obtain ⟨x61, hx61, hbe35⟩ := Mi.bnd hbe35
      obtain ⟨x62, hx62, hbe35⟩ := Mi.bnd hbe35
      obtain ⟨u63, tu64, kx65, ku66, ka67⟩ := itm_O r38 hx61
      refine q_drop (w_bm (c_val (ku66 (val_var rfl) (val_var rfl)) ⟨tu64, w_args (va_cons (val_var rfl) va_nil) ?_⟩))
      refine ka67 yInt_i hx62 fun H69 c68 r38 => ?_
      have r1 := Ty.fz r1 c68
      have c0 := c0.join c68 (fun a h => .inr (n40 a h))
      refine w_nextJ ?_
      obtain rfl := Option.some.inj hbe35
      exact ⟨_, (some (.int x44.1)), (some (.int x44.2)), v37, F39, rfl, c0, r1, r38, n40, hle35⟩
    obtain ⟨s36, y41, y42, v37, F39, rfl, c0, r1, r38, n40, hle35⟩ := hp
    obtain rfl := Mi.forN_end hle35
    refine q_ret ?_
    refine w_cb ?_
    refine w_cons ?_
    refine w_lc ?_
    refine w_iList ?_
    refine c_val (val_var rfl) ?_
    obtain ⟨e70, he70, hm⟩ := Mi.bnd hm
    refine kc_lsg (K := K) (τ := (yTupL yInt)) (own_lsg r38) (fun D72 i H' => ∃ (s71 : (List (List Int))), Chg ([] : List Addr) H0 H' ∧ (yTupL (yTup (sCons yInt (sOne yInt)))).rep K H' [] v1 d1 ∧ (yOwn (yLst yInt)).rep K H' F39 v37 s36 ∧ (yLst (yTupL yInt)).rep K H' [D72] (.ref D72) s71 ∧ Dj F39 [D72] ∧ (∀ a ∈ [D72], H0 a = none) ∧ Mi.forN (Mi.m_joined_places_b3) s71 (List.drop i s36) = some e70) (fun D72 H78 np77 c76 r73 => ⟨([] : (List (List Int))), c0.trans c76.none, (Ty.fz r1 c76), (Ty.ex r38 c76), r73, Ty.nin r38 np77, one_fresh (c0.dom D72 np77), he70⟩) (fun D72 i H' hp => by obtain ⟨s71, c0, r1, r38, r73, d74, n75, _⟩ := hp; exact (own_lsg r38)) (fun D72 i81 x80 u83 F85 H82 hx79 r84 su86 hp => ?_) (fun D72 H' np77 hp => ?_)
    ·
      obtain ⟨s71, c0, r1, r38, r73, d74, n75, hle70⟩ := hp
      obtain ⟨_, hbe70, hle70⟩ := Mi.forN_go hle70 hx79
      unfold Mi.m_joined_places_b3 at hbe70
      have d87 : Dj F85 [D72] := Dj.sub (d74) su86
      have n88 : ∀ a ∈ F85, H0 a = none := fun a h => n40 a (su86 a h)
      refine g_name (σ' := [some (.int d0), some v1, some v37, y41, y42, none, some u83]) rfl ?_
      refine ⟨rfl, ?_⟩
      refine w_yes ?_
      refine iteT ?_
      refine w_cb ?_
      refine w_args (va_cons (val_var rfl) va_nil) ?_
      refine w_tupleL r84 fun v89 H90 c91 r92 => ?_
      have r1 := Ty.fz r1 c91
      have r38 := Ty.ex r38 c91
      have r84 := Ty.ex r84 c91
      have r73 := Ty.ex r73 c91
      have c0 := c0.trans c91.none
      obtain ⟨x93, hx93, hbe70⟩ := Mi.bnd hbe70
      refine e_app r73 r92 hx93 fun H95 c94 r73 => ?_
      have r1 := Ty.fz r1 c94
      have r38 := Ty.chg r38 c94 d74
      have r84 := Ty.chg r84 c94 d87
      have c0 := c0.join c94 (fun a h => .inr (n75 a h))
      obtain rfl := Option.some.inj hbe70
      exact ⟨x93, c0, r1, r38, r73, d74, n75, hle70⟩
    obtain ⟨s71, c0, r1, r38, r73, d74, n75, hle70⟩ := hp
    obtain rfl := Mi.forN_end hle70
    refine w_nil ?_
    refine w_tupleL r73 fun v96 H97 c98 r99 => ?_
    have r1 := Ty.fz r1 c98
    have r38 := Ty.ex r38 c98
    have r73 := Ty.ex r73 c98
    have c0 := c0.trans c98.none
    obtain rfl := Option.some.inj hm
    exact hQ _ _ c0 r99 
abbrev s_Chart_init : Stmt := inClass (topS 24) 0
abbrev N_Chart_init : List Str := ["self", "depths", "lanes", "tide", "harbours"]
theorem sc_Chart_init : FnScope ["self", "depths", "lanes", "tide", "harbours"] ["self", "depths", "lanes", "tide", "harbours"] (defScope s_Chart_init) := ⟨rfl, rfl, rfl, by decide +kernel, rfl, by decide +kernel, by decide +kernel⟩
def sp_Chart_init (K : PySem.W.Frag) (C_Chart : Addr) : Sp := fun vs H Q _ => ∃ (x0 dx0 : Addr) (v1 : V) (F1 : List Addr) (d1 : (List Int)) (v2 : V) (F2 : List Addr) (d2 : (List (Int × Int))) (v3 : V) (F3 : List Addr) (d3 : (List Int)) (v4 : V) (F4 : List Addr) (d4 : (List Int)) (r : (Int × (List Int) × (List (Int × Int)) × (List Int) × (List Int) × (List (List Int)))), vs = [.ref x0, v1, v2, v3, v4] ∧ (yPart C_Chart dx0 []).rep K H [x0] (.ref x0) [] ∧ (yLst yInt).rep K H F1 v1 d1 ∧ (yLst (yTup (sCons yInt (sOne yInt)))).rep K H F2 v2 d2 ∧ (yLst yInt).rep K H F3 v3 d3 ∧ (yLst yInt).rep K H F4 v4 d4 ∧ Dj [x0] F1 ∧ Dj [x0] F2 ∧ Dj [x0] F3 ∧ Dj [x0] F4 ∧ Mi.m_Chart_init d1 d2 d3 d4 = some r ∧ ∀ H', Chg [x0] H H' → (yObj C_Chart nm_Chart ty_Chart).rep K H' [] (.ref x0) r → Q .non H'
theorem ok_Chart_init (B : Bi mg) (CN : Cs K mg) {C_Chart : Addr} (T_Chart : Tx K mg C_Chart "Chart" nm_Chart) (C_good_depths : Cal P w K mg "good_depths" ["depths"] 2 (sp_good_depths K)) (C_good_lanes : Cal P w K mg "good_lanes" ["lanes", "size"] 1 (sp_good_lanes K)) (C_good_tide : Cal P w K mg "good_tide" ["tide"] 2 (sp_good_tide K)) (C_good_harbours : Cal P w K mg "good_harbours" ["harbours", "size"] 2 (sp_good_harbours K)) (C_ordered_lanes : Cal P w K mg "ordered_lanes" ["lanes"] 1 (sp_ordered_lanes K)) (C_joined_places : Cal P w K mg "joined_places" ["size", "lanes"] 1 (sp_joined_places K)) (D : DfnI K C_Chart "Chart.__init__" s_Chart_init (kw_Chart K) ) : CalI P w K mg C_Chart "Chart.__init__" s_Chart_init (kw_Chart K) ["self", "depths", "lanes", "tide", "harbours"] 3 (sp_Chart_init K C_Chart) := by
  obtain ⟨f, fd, F, g⟩ := D.ex
  refine ⟨f, fd, g, F, fun base => okD F sc_Chart_init (fun vs H Q E h => ?_) (fun cdv A outer s H0 vs Q E hr h => ?_)⟩
  · obtain ⟨x0, dx0, v1, F1, d1, v2, F2, d2, v3, F3, d3, v4, F4, d4, r, rfl, rs, r1, r2, r3, r4, dd0_1, dd0_2, dd0_3, dd0_4, hm, hQ⟩ := h; rfl
  ·
    obtain ⟨x0, dx0, v1, F1, d1, v2, F2, d2, v3, F3, d3, v4, F4, d4, r, rfl, rs, r1, r2, r3, r4, dd0_1, dd0_2, dd0_3, dd0_4, hm, hQ⟩ := h
    refine ⟨_, pss_cons (ps_if (pt_not (pt_val (pe_cc C_good_depths hr (pa_cons (pv 1) pa_nil)))) (pss_cons ps_never pss_nil) (pss_nil))
      (pss_cons (ps_if (pt_not (pt_val (pe_cc C_good_lanes hr (pa_cons (pv 2) (pa_cons (pe_callB (cl_len (K := K)) (by rfl) B.len PySem.boot_len (pa_cons (pv 1) pa_nil)) pa_nil))))) (pss_cons ps_never pss_nil) (pss_nil))
      (pss_cons (ps_if (pt_not (pt_val (pe_cc C_good_tide hr (pa_cons (pv 3) pa_nil)))) (pss_cons ps_never pss_nil) (pss_nil))
      (pss_cons (ps_if (pt_not (pt_val (pe_cc C_good_harbours hr (pa_cons (pv 4) (pa_cons (pe_callB (cl_len (K := K)) (by rfl) B.len PySem.boot_len (pa_cons (pv 1) pa_nil)) pa_nil))))) (pss_cons ps_never pss_nil) (pss_nil))
      (pss_cons (ps_fld (pv 0) (pe_callB (cl_len (K := K)) (by rfl) B.len PySem.boot_len (pa_cons (pv 1) pa_nil)) rfl)
      (pss_cons (ps_fld (pv 0) (pe_callTy (cl_tuple (K := K)) (by rfl) B.tuple (by decide +kernel) (pa_cons (pv 1) pa_nil)) rfl)
      (pss_cons (ps_fld (pv 0) (pe_cc C_ordered_lanes hr (pa_cons (pv 2) pa_nil)) rfl)
      (pss_cons (ps_fld (pv 0) (pe_callTy (cl_tuple (K := K)) (by rfl) B.tuple (by decide +kernel) (pa_cons (pv 3) pa_nil)) rfl)
      (pss_cons (ps_fld (pv 0) (pe_callTy (cl_tuple (K := K)) (by rfl) B.tuple (by decide +kernel) (pa_cons (pe_callB (cl_sortedL (K := K)) (by rfl) B.sorted (by decide +kernel) (pa_cons (pv 4) pa_nil)) pa_nil)) rfl)
      (pss_cons (ps_fld (pv 0) (pe_cc C_joined_places hr (pa_cons (pe_fldk (K := K) (pv 0) (by rfl)) (pa_cons (pe_fldk (K := K) (pv 0) (by rfl)) pa_nil))) rfl)
      (pss_nil)))))))))), ?_⟩
    have c0 : Chg ([x0]) H0 H0 := Chg.refl H0
    unfold Mi.m_Chart_init at hm
    refine q_ifS ?_
    refine w_not ?_
    refine w_B ?_
    refine w_call ?_
    refine w_args (va_cons (val_var rfl) va_nil) ?_
    obtain ⟨q1, hq1, hm⟩ := Mi.bnd hm
    refine ⟨v1, F1, d1, q1, rfl, r1, hq1, fun H3 c2  => ?_⟩
    have rs := Ty.ex rs c2
    have r1 := Ty.ex r1 c2
    have r2 := Ty.ex r2 c2
    have r3 := Ty.ex r3 c2
    have r4 := Ty.ex r4 c2
    have c0 := c0.trans c2.none
    refine ⟨_, rfl, ?_⟩
    refine c_if (fun hb => ?_) (fun hb => ?_)
    ·
      replace hm := Mi.ifT hb hm
      cases hm
    replace hm := Mi.ifF hb hm
    refine w_fall ?_
    refine q_ifS ?_
    refine w_not ?_
    refine w_B ?_
    refine w_call ?_
    refine w_args (va_cons (val_var rfl) (va_cons (val_lenL r1 (val_var rfl)) va_nil)) ?_
    obtain ⟨q4, hq4, hm⟩ := Mi.bnd hm
    refine ⟨v2, F2, d2, (d1.length : Int), q4, rfl, r2, hq4, fun H6 c5  => ?_⟩
    have rs := Ty.ex rs c5
    have r1 := Ty.ex r1 c5
    have r2 := Ty.ex r2 c5
    have r3 := Ty.ex r3 c5
    have r4 := Ty.ex r4 c5
    have c0 := c0.trans c5.none
    refine ⟨_, rfl, ?_⟩
    refine c_if (fun hb => ?_) (fun hb => ?_)
    ·
      replace hm := Mi.ifT hb hm
      cases hm
    replace hm := Mi.ifF hb hm
    refine w_fall ?_
    refine q_ifS ?_
    refine w_not ?_
    refine w_B ?_
    refine w_call ?_
    refine w_args (va_cons (val_var rfl) va_nil) ?_
    obtain ⟨q7, hq7, hm⟩ := Mi.bnd hm
    refine ⟨v3, F3, d3, q7, rfl, r3, hq7, fun H9 c8  => ?_⟩
    have rs := Ty.ex rs c8
    have r1 := Ty.ex r1 c8
    have r2 := Ty.ex r2 c8
    have r3 := Ty.ex r3 c8
    have r4 := Ty.ex r4 c8
    have c0 := c0.trans c8.none
    refine ⟨_, rfl, ?_⟩
    refine c_if (fun hb => ?_) (fun hb => ?_)
    ·
      replace hm := Mi.ifT hb hm
      cases hm
    replace hm := Mi.ifF hb hm
    refine w_fall ?_
    refine q_ifS ?_
    refine w_not ?_
    refine w_B ?_
    refine w_call ?_
    refine w_args (va_cons (val_var rfl) (va_cons (val_lenL r1 (val_var rfl)) va_nil)) ?_
    obtain ⟨q10, hq10, hm⟩ := Mi.bnd hm
    refine ⟨v4, F4, d4, (d1.length : Int), q10, rfl, r4, hq10, fun H12 c11  => ?_⟩
    have rs := Ty.ex rs c11
    have r1 := Ty.ex r1 c11
    have r2 := Ty.ex r2 c11
    have r3 := Ty.ex r3 c11
    have r4 := Ty.ex r4 c11
    have c0 := c0.trans c11.none
    refine ⟨_, rfl, ?_⟩
    refine c_if (fun hb => ?_) (fun hb => ?_)
    ·
      replace hm := Mi.ifT hb hm
      cases hm
    replace hm := Mi.ifF hb hm
    refine w_fall ?_
    refine q_fld ?_
    refine c_val (val_lenL r1 (val_var rfl)) ?_
    refine c_val (val_var rfl) ?_
    refine m_fldP rs T_Chart.cls (T_Chart.na "size" (by decide +kernel)) (by decide +kernel) rfl (by decide) rfl fun H14 c13 rs => ?_
    have r1 := Ty.chg r1 c13 dd0_1.symm
    have r2 := Ty.chg r2 c13 dd0_2.symm
    have r3 := Ty.chg r3 c13 dd0_3.symm
    have r4 := Ty.chg r4 c13 dd0_4.symm
    have c0 := c0.join c13 (fun a h => .inl (h))
    have rs : (yPart C_Chart dx0 (["size"] : List Str)).rep K _ [x0] (.ref x0) [(.int (d1.length : Int))] := rs
    refine q_fld ?_
    refine w_cb ?_
    refine w_args (va_cons (val_var rfl) va_nil) ?_
    refine w_tupleL r1 fun v15 H16 c17 r18 => ?_
    have rs := Ty.ex rs c17
    have r1 := Ty.ex r1 c17
    have r2 := Ty.ex r2 c17
    have r3 := Ty.ex r3 c17
    have r4 := Ty.ex r4 c17
    have c0 := c0.trans c17.none
    refine c_val (val_var rfl) ?_
    refine m_fldP rs T_Chart.cls (T_Chart.na "depths" (by decide +kernel)) (by decide +kernel) rfl (by decide) rfl fun H20 c19 rs => ?_
    have r1 := Ty.chg r1 c19 dd0_1.symm
    have r2 := Ty.chg r2 c19 dd0_2.symm
    have r3 := Ty.chg r3 c19 dd0_3.symm
    have r4 := Ty.chg r4 c19 dd0_4.symm
    have r18 := Ty.fz r18 c19
    have c0 := c0.join c19 (fun a h => .inl (h))
    have rs : (yPart C_Chart dx0 (["size", "depths"] : List Str)).rep K _ [x0] (.ref x0) [(.int (d1.length : Int)), v15] := rs
    refine q_fld ?_
    refine w_call ?_
    refine w_args (va_cons (val_var rfl) va_nil) ?_
    obtain ⟨q21, hq21, hm⟩ := Mi.bnd hm
    refine ⟨v2, F2, d2, q21, rfl, r2, hq21, fun v24 H23 c22 r25  => ?_⟩
    have rs := Ty.ex rs c22
    have r1 := Ty.ex r1 c22
    have r2 := Ty.ex r2 c22
    have r3 := Ty.ex r3 c22
    have r4 := Ty.ex r4 c22
    have r18 := Ty.fz r18 c22
    have c0 := c0.trans c22.none
    refine c_val (val_var rfl) ?_
    refine m_fldP rs T_Chart.cls (T_Chart.na "lanes" (by decide +kernel)) (by decide +kernel) rfl (by decide) rfl fun H27 c26 rs => ?_
    have r1 := Ty.chg r1 c26 dd0_1.symm
    have r2 := Ty.chg r2 c26 dd0_2.symm
    have r3 := Ty.chg r3 c26 dd0_3.symm
    have r4 := Ty.chg r4 c26 dd0_4.symm
    have r18 := Ty.fz r18 c26
    have r25 := Ty.fz r25 c26
    have c0 := c0.join c26 (fun a h => .inl (h))
    have rs : (yPart C_Chart dx0 (["size", "depths", "lanes"] : List Str)).rep K _ [x0] (.ref x0) [(.int (d1.length : Int)), v15, v24] := rs
    refine q_fld ?_
    refine w_cb ?_
    refine w_args (va_cons (val_var rfl) va_nil) ?_
    refine w_tupleL r3 fun v28 H29 c30 r31 => ?_
    have rs := Ty.ex rs c30
    have r1 := Ty.ex r1 c30
    have r2 := Ty.ex r2 c30
    have r3 := Ty.ex r3 c30
    have r4 := Ty.ex r4 c30
    have r18 := Ty.fz r18 c30
    have r25 := Ty.fz r25 c30
    have c0 := c0.trans c30.none
    refine c_val (val_var rfl) ?_
    refine m_fldP rs T_Chart.cls (T_Chart.na "tide" (by decide +kernel)) (by decide +kernel) rfl (by decide) rfl fun H33 c32 rs => ?_
    have r1 := Ty.chg r1 c32 dd0_1.symm
    have r2 := Ty.chg r2 c32 dd0_2.symm
    have r3 := Ty.chg r3 c32 dd0_3.symm
    have r4 := Ty.chg r4 c32 dd0_4.symm
    have r18 := Ty.fz r18 c32
    have r25 := Ty.fz r25 c32
    have r31 := Ty.fz r31 c32
    have c0 := c0.join c32 (fun a h => .inl (h))
    have rs : (yPart C_Chart dx0 (["size", "depths", "lanes", "tide"] : List Str)).rep K _ [x0] (.ref x0) [(.int (d1.length : Int)), v15, v24, v28] := rs
    refine q_fld ?_
    refine w_cb ?_
    refine w_cons ?_
    refine w_cb ?_
    refine w_args (va_cons (val_var rfl) va_nil) ?_
    refine w_sortedL r4 fun p34 H38 np37 c35 r36 => ?_
    have d39 : Dj [x0] [p34] := Ty.nin rs np37
    have d40 : Dj F1 [p34] := Ty.nin r1 np37
    have d41 : Dj F2 [p34] := Ty.nin r2 np37
    have d42 : Dj F3 [p34] := Ty.nin r3 np37
    have d43 : Dj F4 [p34] := Ty.nin r4 np37
    have n44 : ∀ a ∈ [p34], H0 a = none := one_fresh (c0.dom p34 np37)
    have rs := Ty.ex rs c35
    have r1 := Ty.ex r1 c35
    have r2 := Ty.ex r2 c35
    have r3 := Ty.ex r3 c35
    have r4 := Ty.ex r4 c35
    have r18 := Ty.fz r18 c35
    have r25 := Ty.fz r25 c35
    have r31 := Ty.fz r31 c35
    have c0 := c0.trans c35.none
    refine w_nil ?_
    refine w_tupleL r36 fun v45 H46 c47 r48 => ?_
    have rs := Ty.ex rs c47
    have r1 := Ty.ex r1 c47
    have r2 := Ty.ex r2 c47
    have r3 := Ty.ex r3 c47
    have r4 := Ty.ex r4 c47
    have r18 := Ty.fz r18 c47
    have r25 := Ty.fz r25 c47
    have r31 := Ty.fz r31 c47
    have r36 := Ty.ex r36 c47
    have c0 := c0.trans c47.none
    refine c_val (val_var rfl) ?_
    refine m_fldP rs T_Chart.cls (T_Chart.na "harbours" (by decide +kernel)) (by decide +kernel) rfl (by decide) rfl fun H50 c49 rs => ?_
    have r1 := Ty.chg r1 c49 dd0_1.symm
    have r2 := Ty.chg r2 c49 dd0_2.symm
    have r3 := Ty.chg r3 c49 dd0_3.symm
    have r4 := Ty.chg r4 c49 dd0_4.symm
    have r18 := Ty.fz r18 c49
    have r25 := Ty.fz r25 c49
    have r31 := Ty.fz r31 c49
    have r48 := Ty.fz r48 c49
    have c0 := c0.join c49 (fun a h => .inl (h))
    have rs : (yPart C_Chart dx0 (["size", "depths", "lanes", "tide", "harbours"] : List Str)).rep K _ [x0] (.ref x0) [(.int (d1.length : Int)), v15, v24, v28, v45] := rs
    refine q_fld ?_
    refine w_call ?_
    refine w_args (va_cons (fld_part (n := 0) (by decide +kernel) rfl rfl T_Chart.cls (T_Chart.na "size" (by decide +kernel)) rs (val_var rfl)) (va_cons (fld_part (n := 2) (by decide +kernel) rfl rfl T_Chart.cls (T_Chart.na "lanes" (by decide +kernel)) rs (val_var rfl)) va_nil)) ?_
    obtain ⟨q51, hq51, hm⟩ := Mi.bnd hm
    refine ⟨(d1.length : Int), v24, q21, q51, rfl, r25, hq51, fun v54 H53 c52 r55  => ?_⟩
    have rs := Ty.ex rs c52
    have r1 := Ty.ex r1 c52
    have r2 := Ty.ex r2 c52
    have r3 := Ty.ex r3 c52
    have r4 := Ty.ex r4 c52
    have r18 := Ty.fz r18 c52
    have r25 := Ty.fz r25 c52
    have r31 := Ty.fz r31 c52
    have r48 := Ty.fz r48 c52
    have c0 := c0.trans c52.none
    refine c_val (val_var rfl) ?_
    refine m_fldE (ts := ty_Chart) (d := ((d1.length : Int), d1, q21, d3, (Mi.sortI d4), q51)) rs T_Chart.cls (T_Chart.na "joined" (by decide +kernel)) (by decide +kernel) rfl (by decide) rfl ⟨_, _, _, _, rfl, rfl, yInt_i, ⟨_, _, _, _, rfl, rfl, r18, ⟨_, _, _, _, rfl, rfl, r25, ⟨_, _, _, _, rfl, rfl, r31, ⟨_, _, _, _, rfl, rfl, r48, ⟨_, rfl, r55⟩⟩⟩⟩⟩⟩ fun H57 c56 rs => ?_
    have r1 := Ty.chg r1 c56 dd0_1.symm
    have r2 := Ty.chg r2 c56 dd0_2.symm
    have r3 := Ty.chg r3 c56 dd0_3.symm
    have r4 := Ty.chg r4 c56 dd0_4.symm
    have r18 := Ty.fz r18 c56
    have r25 := Ty.fz r25 c56
    have r31 := Ty.fz r31 c56
    have r48 := Ty.fz r48 c56
    have r55 := Ty.fz r55 c56
    have c0 := c0.join c56 (fun a h => .inl (h))
    refine w_next ?_
    obtain rfl := Option.some.inj hm
    exact hQ _ c0 rs
abbrev s_Chart_water : Stmt := inClass (topS 24) 1
abbrev N_Chart_water : List Str := ["self", "place", "hour"]
theorem sc_Chart_water : FnScope ["self", "place", "hour"] ["self", "place", "hour"] (defScope s_Chart_water) := ⟨rfl, rfl, rfl, by decide +kernel, rfl, by decide +kernel, by decide +kernel⟩
def sp_Chart_water (K : PySem.W.Frag) (C_Chart : Addr) : Sp := fun vs H Q _ => ∃ (v0 : V) (d0 : (Int × (List Int) × (List (Int × Int)) × (List Int) × (List Int) × (List (List Int)))) (d1 : Int) (d2 : Int) (r : Int), vs = [v0, (.int d1), (.int d2)] ∧ (yObj C_Chart nm_Chart ty_Chart).rep K H [] v0 d0 ∧ Mi.m_Chart_water d0 d1 d2 = some r ∧ ∀ H', Chg ([]) H H' → Q (.int r) H'
theorem ok_Chart_water (B : Bi mg) (CN : Cs K mg) {C_Chart : Addr} (T_Chart : Tx K mg C_Chart "Chart" nm_Chart) (D : DfnM K C_Chart "water" "Chart.water" s_Chart_water) : CalM P w K mg C_Chart "water" ["self", "place", "hour"] 1 (sp_Chart_water K C_Chart) := by
  obtain ⟨f, fd, F, g⟩ := D.ex
  refine ⟨f, fd, g, bindsF F (fun _ _ _ _ _ _ us hl => match us, hl with | [_, _, _], _ => rfl), fun base => F.ok sc_Chart_water (fun vs H Q E h => ?_) (fun cdv A outer s H0 vs Q E hr h => ?_)⟩
  · obtain ⟨v0, d0, d1, d2, r, rfl, r0, hm, hQ⟩ := h; rfl
  ·
    obtain ⟨v0, d0, d1, d2, r, rfl, r0, hm, hQ⟩ := h
    refine ⟨_, pss_cons (ps_ret (pe_op op_add (pe_ix (ix_t (K := K)) (pe_fldk (K := K) (pv 0) (by rfl)) (pv 1) (fun _ _ => rfl)) (pe_ix (ix_t (K := K)) (pe_fldk (K := K) (pv 0) (by rfl)) (pe_op op_mod (pv 2) (pe_callB (cl_len (K := K)) (by rfl) B.len PySem.boot_len (pa_cons (pe_fldk (K := K) (pv 0) (by rfl)) pa_nil))) (fun _ _ => rfl)))) pss_nil, ?_⟩
    have c0 : Chg ([] : List Addr) H0 H0 := Chg.refl H0
    unfold Mi.m_Chart_water at hm
    refine q_ret ?_
    obtain ⟨u1, r2, kx3, ku4⟩ := fld_obj (n := 1) (f := "depths") (atS at0) (by decide +kernel) rfl T_Chart.cls (T_Chart.na "depths" (by decide +kernel)) r0
    obtain ⟨x5, hx5, hm⟩ := Mi.bnd hm
    obtain ⟨u6, r7, kx8, ku9⟩ := fld_obj (n := 3) (f := "tide") (atS (atS (atS at0))) (by decide +kernel) rfl T_Chart.cls (T_Chart.na "tide" (by decide +kernel)) r0
    obtain ⟨u10, r11, kx12, ku13⟩ := fld_obj (n := 3) (f := "tide") (atS (atS (atS at0))) (by decide +kernel) rfl T_Chart.cls (T_Chart.na "tide" (by decide +kernel)) r0
    obtain ⟨x14, hx14, hm⟩ := Mi.bnd hm
    obtain ⟨x15, hx15, hm⟩ := Mi.bnd hm
    refine c_val (val_add (itm_TI r2 hx5 (ku4 (val_var rfl)) (val_var rfl)) (itm_TI r7 hx15 (ku9 (val_var rfl)) (val_mod (val_var rfl) (val_lenT r11 (ku13 (val_var rfl))) hx14))) ?_
    obtain rfl := Option.some.inj hm
    exact hQ _ c0 
abbrev s_open_places : Stmt := topS 2
abbrev N_open_places : List Str := ["chart", "draught", "hour", "place"]
theorem sc_open_places : FnScope ["chart", "draught", "hour", "place"] ["chart", "draught", "hour"] (defScope s_open_places) := ⟨rfl, rfl, rfl, by decide +kernel, rfl, by decide +kernel, by decide +kernel⟩
def sp_open_places (K : PySem.W.Frag) (C_Chart : Addr) : Sp := fun vs H Q _ => ∃ (v0 : V) (d0 : (Int × (List Int) × (List (Int × Int)) × (List Int) × (List Int) × (List (List Int)))) (d1 : Int) (d2 : Int) (r : (List Bool)), vs = [v0, (.int d1), (.int d2)] ∧ (yObj C_Chart nm_Chart ty_Chart).rep K H [] v0 d0 ∧ Mi.m_open_places d0 d1 d2 = some r ∧ ∀ v H' F, Chg ([]) H H' → (yLst yBool).rep K H' F v r → (∀ a ∈ F, H a = none) → Q v H'
theorem ok_open_places (B : Bi mg) (CN : Cs K mg) (D : Dfn K mg "open_places" s_open_places) {C_Chart : Addr} (T_Chart : Tx K mg C_Chart "Chart" nm_Chart) (M_Chart_water : CalM P w K mg C_Chart "water" ["self", "place", "hour"] 1 (sp_Chart_water K C_Chart)) : Cal P w K mg "open_places" ["chart", "draught", "hour"] 2 (sp_open_places K C_Chart) := by
  obtain ⟨f, fd, F, g⟩ := D.ex
  refine ⟨f, fd, g, F.kp, bindsF F (fun _ _ _ _ _ _ us hl => match us, hl with | [_, _, _], _ => rfl), fun base => F.ok sc_open_places (fun vs H Q E h => ?_) (fun cdv A outer s H0 vs Q E hr h => ?_)⟩
  · obtain ⟨v0, d0, d1, d2, r, rfl, r0, hm, hQ⟩ := h; rfl
  ·
    obtain ⟨v0, d0, d1, d2, r, rfl, r0, hm, hQ⟩ := h
    obtain ⟨fM_Chart_water, fdM_Chart_water, hM_Chart_water, bM_Chart_water, OM_Chart_water⟩ := M_Chart_water.ex
    refine ⟨_, pss_cons (ps_ret (pe_lc (own := [("place", 3)]) rfl sc_open_places.nd (pi_range1 (by rfl) B.range (pa_cons (pe_fldk (K := K) (pv 0) (by rfl)) pa_nil)) (blkOk_by (own := [("place", 3)]) (N := N_open_places) (sc := defScope s_open_places) (by decide +kernel)) (fun _ _ _ _ _ => (pg_name (i := 3) sc_open_places.nd rfl (.inl rfl))) (fun _ _ _ _ _ => pts_nil) (fun _ _ _ _ _ => (pe_cmpR op_ge (pe_meth (pv 0) T_Chart.cls hM_Chart_water (OM_Chart_water base) (hr.mono (by decide)) (fun s us _ hl => by rw [List.append_nil] at hl ⊢; exact bM_Chart_water s us hl) .nil pass0 (pa_cons (pv 3) (pa_cons (pv 2) pa_nil))) (pv 1) (nomark _))))) pss_nil, ?_⟩
    have c0 : Chg ([] : List Addr) H0 H0 := Chg.refl H0
    unfold Mi.m_open_places at hm
    refine q_ret ?_
    refine w_lc ?_
    refine w_iRng1 ?_
    obtain ⟨u1, r2, kx3, ku4⟩ := fld_obj (n := 0) (f := "size") at0 (by decide +kernel) rfl T_Chart.cls (T_Chart.na "size" (by decide +kernel)) r0
    obtain ⟨_, rfl⟩ := r2
    refine w_args (va_cons (ku4 (val_var rfl)) va_nil) ?_
    obtain ⟨g5, hg5, hm⟩ := Mi.bnd hm
    obtain ⟨e6, he6, hm⟩ := Mi.bnd hm
    refine kc_rng1 (K := K) (τ := yBool) hg5 (fun D8 i H' => ∃ (s7 : (List Bool)), Chg ([] : List Addr) H0 H' ∧ (yObj C_Chart nm_Chart ty_Chart).rep K H' [] v0 d0 ∧ (yLst yBool).rep K H' [D8] (.ref D8) s7 ∧ (∀ a ∈ [D8], H0 a = none) ∧ Mi.forN (Mi.m_open_places_b1 d0 d1 d2) s7 (List.drop i g5) = some e6) (fun D8 H13 np12 c11 r9 => ⟨([] : (List Bool)), c0.trans c11.none, (Ty.fz r0 c11), r9, one_fresh (c0.dom D8 np12), he6⟩) (fun D8 i16 x15 H17 hx14 hp => ?_) (fun D8 H' np12 hp => ?_)
    ·
      obtain ⟨s7, c0, r0, r9, n10, hle6⟩ := hp
      obtain ⟨_, hbe6, hle6⟩ := Mi.forN_go hle6 hx14
      unfold Mi.m_open_places_b1 at hbe6
      refine g_name (σ' := [some v0, some (.int d1), some (.int d2), some (.int x15)]) rfl ?_
      refine ⟨rfl, ?_⟩
      refine w_yes ?_
      refine iteT ?_
      refine w_op ?_
      refine w_meth ?_
      refine c_val (val_var rfl) ?_
      refine meth_obj r0 (by decide +kernel) ?_
      refine w_args (va_cons (val_var rfl) (va_cons (val_var rfl) va_nil)) ?_
      obtain ⟨q22, hq22, hbe6⟩ := Mi.bnd hbe6
      refine ⟨v0, d0, x15, d2, q22, rfl, r0, hq22, fun H24 c23  => ?_⟩
      have r0 := Ty.fz r0 c23
      have r9 := Ty.ex r9 c23
      have c0 := c0.trans c23.none
      refine c_val (val_var rfl) ?_
      refine w_I0 ?_
      obtain ⟨x25, hx25, hbe6⟩ := Mi.bnd hbe6
      refine e_app r9 yBool_i hx25 fun H27 c26 r9 => ?_
      have r0 := Ty.fz r0 c26
      have c0 := c0.join c26 (fun a h => .inr (n10 a h))
      obtain rfl := Option.some.inj hbe6
      exact ⟨x25, c0, r0, r9, n10, hle6⟩
    obtain ⟨s7, c0, r0, r9, n10, hle6⟩ := hp
    obtain rfl := Mi.forN_end hle6
    obtain rfl := Option.some.inj hm
    exact hQ _ _ _ c0 r9 n10 
abbrev s_Chart_neighbours : Stmt := inClass (topS 24) 3
abbrev N_Chart_neighbours : List Str := ["self", "place"]
theorem sc_Chart_neighbours : FnScope ["self", "place"] ["self", "place"] (defScope s_Chart_neighbours) := ⟨rfl, rfl, rfl, by decide +kernel, rfl, by decide +kernel, by decide +kernel⟩
def sp_Chart_neighbours (K : PySem.W.Frag) (C_Chart : Addr) : Sp := fun vs H Q _ => ∃ (v0 : V) (d0 : (Int × (List Int) × (List (Int × Int)) × (List Int) × (List Int) × (List (List Int)))) (d1 : Int) (r : (List Int)), vs = [v0, (.int d1)] ∧ (yObj C_Chart nm_Chart ty_Chart).rep K H [] v0 d0 ∧ Mi.m_Chart_neighbours d0 d1 = some r ∧ ∀ v H' F, Chg ([]) H H' → (yLst yInt).rep K H' F v r → (∀ a ∈ F, H a = none) → Q v H'
theorem ok_Chart_neighbours (B : Bi mg) (CN : Cs K mg) {C_Chart : Addr} (T_Chart : Tx K mg C_Chart "Chart" nm_Chart) (D : DfnM K C_Chart "neighbours" "Chart.neighbours" s_Chart_neighbours) : CalM P w K mg C_Chart "neighbours" ["self", "place"] 1 (sp_Chart_neighbours K C_Chart) := by
  obtain ⟨f, fd, F, g⟩ := D.ex
  refine ⟨f, fd, g, bindsF F (fun _ _ _ _ _ _ us hl => match us, hl with | [_, _], _ => rfl), fun base => F.ok sc_Chart_neighbours (fun vs H Q E h => ?_) (fun cdv A outer s H0 vs Q E hr h => ?_)⟩
  · obtain ⟨v0, d0, d1, r, rfl, r0, hm, hQ⟩ := h; rfl
  ·
    obtain ⟨v0, d0, d1, r, rfl, r0, hm, hQ⟩ := h
    refine ⟨_, pss_cons (ps_ret (pe_callTy (cl_list (K := K)) (by rfl) B.list (by decide +kernel) (pa_cons (pe_ix (ix_t (K := K)) (pe_fldk (K := K) (pv 0) (by rfl)) (pv 1) (fun _ _ => rfl)) pa_nil))) pss_nil, ?_⟩
    have c0 : Chg ([] : List Addr) H0 H0 := Chg.refl H0
    unfold Mi.m_Chart_neighbours at hm
    refine q_ret ?_
    refine w_cb ?_
    obtain ⟨u1, r2, kx3, ku4⟩ := fld_obj (n := 5) (f := "joined") (atS (atS (atS (atS (atS at1))))) (by decide +kernel) rfl T_Chart.cls (T_Chart.na "joined" (by decide +kernel)) r0
    obtain ⟨x5, hx5, hm⟩ := Mi.bnd hm
    obtain ⟨u6, r7, ku8⟩ := itm_T r2 hx5
    refine w_args (va_cons (ku8 (ku4 (val_var rfl)) (val_var rfl)) va_nil) ?_
    refine w_listT r7 fun p9 H13 np12 c10 r11 => ?_
    have n14 : ∀ a ∈ [p9], H0 a = none := one_fresh (c0.dom p9 np12)
    have r0 := Ty.fz r0 c10
    have r7 := Ty.fz r7 c10
    have c0 := c0.trans c10.none
    obtain rfl := Option.some.inj hm
    exact hQ _ _ _ c0 r11 n14 
abbrev s_touches : Stmt := topS 3
abbrev N_touches : List Str := ["chart", "place", "marked", "other"]
theorem sc_touches : FnScope ["chart", "place", "marked", "other"] ["chart", "place", "marked"] (defScope s_touches) := ⟨rfl, rfl, rfl, by decide +kernel, rfl, by decide +kernel, by decide +kernel⟩
def sp_touches (K : PySem.W.Frag) (C_Chart : Addr) : Sp := fun vs H Q _ => ∃ (v0 : V) (d0 : (Int × (List Int) × (List (Int × Int)) × (List Int) × (List Int) × (List (List Int)))) (d1 : Int) (v2 : V) (F2 : List Addr) (d2 : (List Bool)) (r : Bool), vs = [v0, (.int d1), v2] ∧ (yObj C_Chart nm_Chart ty_Chart).rep K H [] v0 d0 ∧ (yLst yBool).rep K H F2 v2 d2 ∧ Mi.m_touches d0 d1 d2 = some r ∧ ∀ H', Chg ([]) H H' → Q (.bl r) H'
theorem ok_touches (B : Bi mg) (CN : Cs K mg) (D : Dfn K mg "touches" s_touches) {C_Chart : Addr} (T_Chart : Tx K mg C_Chart "Chart" nm_Chart) (M_Chart_neighbours : CalM P w K mg C_Chart "neighbours" ["self", "place"] 1 (sp_Chart_neighbours K C_Chart)) : Cal P w K mg "touches" ["chart", "place", "marked"] 2 (sp_touches K C_Chart) := by
  obtain ⟨f, fd, F, g⟩ := D.ex
  refine ⟨f, fd, g, F.kp, bindsF F (fun _ _ _ _ _ _ us hl => match us, hl with | [_, _, _], _ => rfl), fun base => F.ok sc_touches (fun vs H Q E h => ?_) (fun cdv A outer s H0 vs Q E hr h => ?_)⟩
  · obtain ⟨v0, d0, d1, v2, F2, d2, r, rfl, r0, r2, hm, hQ⟩ := h; rfl
  ·
    obtain ⟨v0, d0, d1, v2, F2, d2, r, rfl, r0, r2, hm, hQ⟩ := h
    obtain ⟨fM_Chart_neighbours, fdM_Chart_neighbours, hM_Chart_neighbours, bM_Chart_neighbours, OM_Chart_neighbours⟩ := M_Chart_neighbours.ex
    refine ⟨_, pss_cons (ps_ret (pe_callB (cl_anyL (K := K) rfl) (by rfl) B.any (by decide +kernel) (pa_cons (pe_lc (own := [("other", 3)]) rfl sc_touches.nd (pi_list (pe_meth (pv 0) T_Chart.cls hM_Chart_neighbours (OM_Chart_neighbours base) (hr.mono (by decide)) (fun s us _ hl => by rw [List.append_nil] at hl ⊢; exact bM_Chart_neighbours s us hl) .nil pass0 (pa_cons (pv 1) pa_nil))) (blkOk_by (own := [("other", 3)]) (N := N_touches) (sc := defScope s_touches) (by decide +kernel)) (fun _ _ _ _ _ => (pg_name (i := 3) sc_touches.nd rfl (.inl rfl))) (fun _ _ _ _ _ => pts_nil) (fun _ _ _ _ _ => (pe_ix (ix_l (K := K)) (pv 2) (pv 3) (fun _ _ => rfl)))) pa_nil))) pss_nil, ?_⟩
    have c0 : Chg ([] : List Addr) H0 H0 := Chg.refl H0
    unfold Mi.m_touches at hm
    refine q_ret ?_
    refine w_cb ?_
    refine w_cons ?_
    refine w_lc ?_
    refine w_iList ?_
    refine w_meth ?_
    refine c_val (val_var rfl) ?_
    refine meth_obj r0 (by decide +kernel) ?_
    refine w_args (va_cons (val_var rfl) va_nil) ?_
    obtain ⟨q1, hq1, hm⟩ := Mi.bnd hm
    refine ⟨v0, d0, d1, q1, rfl, r0, hq1, fun v4 H3 F6 c2 r5 fr7  => ?_⟩
    have d8 : Dj F2 F6 := Ty.fresh r2 fr7
    have n9 : ∀ a ∈ F6, H0 a = none := fun a h => c0.dom a (fr7 a h)
    have r0 := Ty.fz r0 c2
    have r2 := Ty.ex r2 c2
    have c0 := c0.trans c2.none
    obtain ⟨e10, he10, hm⟩ := Mi.bnd hm
    refine kc_lst (K := K) (τ := yBool) r5 (fun D12 i H' => ∃ (s11 : (List Bool)), Chg ([] : List Addr) H0 H' ∧ (yObj C_Chart nm_Chart ty_Chart).rep K H' [] v0 d0 ∧ (yLst yBool).rep K H' F2 v2 d2 ∧ (yLst yInt).rep K H' F6 v4 q1 ∧ (yLst yBool).rep K H' [D12] (.ref D12) s11 ∧ Dj F2 [D12] ∧ Dj F6 [D12] ∧ (∀ a ∈ [D12], H0 a = none) ∧ Mi.forN (Mi.m_touches_b1 d2) s11 (List.drop i q1) = some e10) (fun D12 H19 np18 c17 r13 => ⟨([] : (List Bool)), c0.trans c17.none, (Ty.fz r0 c17), (Ty.ex r2 c17), (Ty.ex r5 c17), r13, Ty.nin r2 np18, Ty.nin r5 np18, one_fresh (c0.dom D12 np18), he10⟩) (fun D12 i H' hp => by obtain ⟨s11, c0, r0, r2, r5, r13, d14, d15, n16, _⟩ := hp; exact r5) (fun D12 i22 x21 u24 H23 hx20 r25 hp => ?_) (fun D12 H' np18 hp => ?_)
    ·
      obtain ⟨s11, c0, r0, r2, r5, r13, d14, d15, n16, hle10⟩ := hp
      obtain ⟨_, hbe10, hle10⟩ := Mi.forN_go hle10 hx20
      unfold Mi.m_touches_b1 at hbe10
      obtain ⟨_, rfl⟩ := r25
      refine g_name (σ' := [some v0, some (.int d1), some v2, some (.int x21)]) rfl ?_
      refine ⟨rfl, ?_⟩
      refine w_yes ?_
      refine iteT ?_
      obtain ⟨x28, hx28, hbe10⟩ := Mi.bnd hbe10
      obtain ⟨u29, r30, ku31⟩ := itm_L r2 hx28
      obtain ⟨_, rfl⟩ := r30
      refine c_val (ku31 (val_var rfl) (val_var rfl)) ?_
      obtain ⟨x32, hx32, hbe10⟩ := Mi.bnd hbe10
      refine e_app r13 yBool_i hx32 fun H34 c33 r13 => ?_
      have r0 := Ty.fz r0 c33
      have r2 := Ty.chg r2 c33 d14
      have r5 := Ty.chg r5 c33 d15
      have c0 := c0.join c33 (fun a h => .inr (n16 a h))
      obtain rfl := Option.some.inj hbe10
      exact ⟨x32, c0, r0, r2, r5, r13, d14, d15, n16, hle10⟩
    obtain ⟨s11, c0, r0, r2, r5, r13, d14, d15, n16, hle10⟩ := hp
    obtain rfl := Mi.forN_end hle10
    refine w_nil ?_
    refine w_anyL r13 ?_
    obtain rfl := Option.some.inj hm
    exact hQ _ c0 
abbrev s_newly_reached : Stmt := topS 5
abbrev N_newly_reached : List Str := ["chart", "hours", "wet", "present", "place"]
theorem sc_newly_reached : FnScope ["chart", "hours", "wet", "present", "place"] ["chart", "hours", "wet"] (defScope s_newly_reached) := ⟨rfl, rfl, rfl, by decide +kernel, rfl, by decide +kernel, by decide +kernel⟩
def sp_newly_reached (K : PySem.W.Frag) (C_Chart : Addr) : Sp := fun vs H Q _ => ∃ (v0 : V) (d0 : (Int × (List Int) × (List (Int × Int)) × (List Int) × (List Int) × (List (List Int)))) (v1 : V) (F1 : List Addr) (d1 : (List (Option Int))) (v2 : V) (F2 : List Addr) (d2 : (List Bool)) (r : (List Int)), vs = [v0, v1, v2] ∧ (yObj C_Chart nm_Chart ty_Chart).rep K H [] v0 d0 ∧ (yLst (yOpt yInt)).rep K H F1 v1 d1 ∧ (yLst yBool).rep K H F2 v2 d2 ∧ Mi.m_newly_reached d0 d1 d2 = some r ∧ ∀ v H' F, Chg ([]) H H' → (yLst yInt).rep K H' F v r → (∀ a ∈ F, H a = none) → Q v H'
theorem ok_newly_reached (B : Bi mg) (CN : Cs K mg) (D : Dfn K mg "newly_reached" s_newly_reached) {C_Chart : Addr} (T_Chart : Tx K mg C_Chart "Chart" nm_Chart) (C_touches : Cal P w K mg "touches" ["chart", "place", "marked"] 2 (sp_touches K C_Chart)) : Cal P w K mg "newly_reached" ["chart", "hours", "wet"] 3 (sp_newly_reached K C_Chart) := by
  obtain ⟨f, fd, F, g⟩ := D.ex
  refine ⟨f, fd, g, F.kp, bindsF F (fun _ _ _ _ _ _ us hl => match us, hl with | [_, _, _], _ => rfl), fun base => F.ok sc_newly_reached (fun vs H Q E h => ?_) (fun cdv A outer s H0 vs Q E hr h => ?_)⟩
  · obtain ⟨v0, d0, v1, F1, d1, v2, F2, d2, r, rfl, r0, r1, r2, hm, hQ⟩ := h; rfl
  ·
    obtain ⟨v0, d0, v1, F1, d1, v2, F2, d2, r, rfl, r0, r1, r2, hm, hQ⟩ := h
    refine ⟨_, pss_cons (ps_set (i := 3) sc_newly_reached.nd rfl (.inr rfl) (pe_lc (own := [("place", 4)]) rfl sc_newly_reached.nd (pi_range1 (by rfl) B.range (pa_cons (pe_fldk (K := K) (pv 0) (by rfl)) pa_nil)) (blkOk_by (own := [("place", 4)]) (N := N_newly_reached) (sc := defScope s_newly_reached) (by decide +kernel)) (fun _ _ _ _ _ => (pg_name (i := 4) sc_newly_reached.nd rfl (.inl rfl))) (fun _ _ _ _ _ => pts_nil) (fun _ _ _ _ _ => (pe_and (pe_ix (ix_l (K := K)) (pv 2) (pv 4) (fun _ _ => rfl)) (pe_one (pe_cmpR op_notN1 (pe_ix (ix_l (K := K)) (pv 1) (pv 4) (fun _ _ => rfl)) pe_non (nomark _)))))))
      (pss_cons (ps_ret (pe_lc (own := [("place", 4)]) rfl sc_newly_reached.nd (pi_range1 (by rfl) B.range (pa_cons (pe_fldk (K := K) (pv 0) (by rfl)) pa_nil)) (blkOk_by (own := [("place", 4)]) (N := N_newly_reached) (sc := defScope s_newly_reached) (by decide +kernel)) (fun _ _ _ _ _ => (pg_name (i := 4) sc_newly_reached.nd rfl (.inl rfl))) (fun _ _ _ _ _ => (pts_one (PW.pt (pw_and (pt_val (pe_ix (ix_l (K := K)) (pv 2) (pv 4) (fun _ _ => rfl))) (pw_and (pt_cmpR op_isN1 (pe_ix (ix_l (K := K)) (pv 1) (pv 4) (fun _ _ => rfl)) pe_non (nomark _)) (pw_and1 (pt_val (pe_cc C_touches hr (pa_cons (pv 0) (pa_cons (pv 4) (pa_cons (pv 3) pa_nil))))))))))) (fun _ _ _ _ _ => (pv 4)))) pss_nil), ?_⟩
    have c0 : Chg ([] : List Addr) H0 H0 := Chg.refl H0
    unfold Mi.m_newly_reached at hm
    refine q_asg ?_
    refine w_lc ?_
    refine w_iRng1 ?_
    obtain ⟨u1, r2, kx3, ku4⟩ := fld_obj (n := 0) (f := "size") at0 (by decide +kernel) rfl T_Chart.cls (T_Chart.na "size" (by decide +kernel)) r0
    obtain ⟨_, rfl⟩ := r2
    refine w_args (va_cons (ku4 (val_var rfl)) va_nil) ?_
    obtain ⟨g5, hg5, hm⟩ := Mi.bnd hm
    obtain ⟨e6, he6, hm⟩ := Mi.bnd hm
    refine kc_rng1 (K := K) (τ := yBool) hg5 (fun D8 i H' => ∃ (s7 : (List Bool)), Chg ([] : List Addr) H0 H' ∧ (yObj C_Chart nm_Chart ty_Chart).rep K H' [] v0 d0 ∧ (yLst (yOpt yInt)).rep K H' F1 v1 d1 ∧ (yLst yBool).rep K H' F2 v2 d2 ∧ (yLst yBool).rep K H' [D8] (.ref D8) s7 ∧ Dj F1 [D8] ∧ Dj F2 [D8] ∧ (∀ a ∈ [D8], H0 a = none) ∧ Mi.forN (Mi.m_newly_reached_b1 d1 d2) s7 (List.drop i g5) = some e6) (fun D8 H15 np14 c13 r9 => ⟨([] : (List Bool)), c0.trans c13.none, (Ty.fz r0 c13), (Ty.ex r1 c13), (Ty.ex r2 c13), r9, Ty.nin r1 np14, Ty.nin r2 np14, one_fresh (c0.dom D8 np14), he6⟩) (fun D8 i18 x17 H19 hx16 hp => ?_) (fun D8 H' np14 hp => ?_)
    ·
      obtain ⟨s7, c0, r0, r1, r2, r9, d10, d11, n12, hle6⟩ := hp
      obtain ⟨_, hbe6, hle6⟩ := Mi.forN_go hle6 hx16
      unfold Mi.m_newly_reached_b1 at hbe6
      refine g_name (σ' := [some v0, some v1, some v2, none, some (.int x17)]) rfl ?_
      refine ⟨rfl, ?_⟩
      refine w_yes ?_
      refine iteT ?_
      obtain ⟨x24, hx24, hbe6⟩ := Mi.bnd hbe6
      obtain ⟨u25, r26, ku27⟩ := itm_L r2 hx24
      obtain ⟨_, rfl⟩ := r26
      obtain ⟨b33, hb33, hbe6⟩ := Mi.bnd hbe6
      refine c_val (val_andVO (ku27 (val_var rfl) (val_var rfl)) hb33 (fun hs28 => by (obtain ⟨x29, hx29, hs28⟩ := Mi.bnd hs28; obtain ⟨u30, r31, ku32⟩ := itm_L r1 hx29; cases hs28; exact (val_notN r31 (ku32 (val_var rfl) (val_var rfl)))))) ?_
      obtain ⟨x34, hx34, hbe6⟩ := Mi.bnd hbe6
      refine e_app r9 yBool_i hx34 fun H36 c35 r9 => ?_
      have r0 := Ty.fz r0 c35
      have r1 := Ty.chg r1 c35 d10
      have r2 := Ty.chg r2 c35 d11
      have c0 := c0.join c35 (fun a h => .inr (n12 a h))
      obtain rfl := Option.some.inj hbe6
      exact ⟨x34, c0, r0, r1, r2, r9, d10, d11, n12, hle6⟩
    obtain ⟨s7, c0, r0, r1, r2, r9, d10, d11, n12, hle6⟩ := hp
    obtain rfl := Mi.forN_end hle6
    refine g_name (σ' := [some v0, some v1, some v2, some (.ref D8), none]) rfl ?_
    refine q_ret ?_
    refine w_lc ?_
    refine w_iRng1 ?_
    obtain ⟨u37, r38, kx39, ku40⟩ := fld_obj (n := 0) (f := "size") at0 (by decide +kernel) rfl T_Chart.cls (T_Chart.na "size" (by decide +kernel)) r0
    obtain ⟨_, rfl⟩ := r38
    refine w_args (va_cons (ku40 (val_var rfl)) va_nil) ?_
    obtain ⟨g41, hg41, hm⟩ := Mi.bnd hm
    obtain ⟨e42, he42, hm⟩ := Mi.bnd hm
    refine kc_rng1 (K := K) (τ := yInt) hg41 (fun D44 i H' => ∃ (s43 : (List Int)), Chg ([] : List Addr) H0 H' ∧ (yObj C_Chart nm_Chart ty_Chart).rep K H' [] v0 d0 ∧ (yLst (yOpt yInt)).rep K H' F1 v1 d1 ∧ (yLst yBool).rep K H' F2 v2 d2 ∧ (yLst yBool).rep K H' [D8] (.ref D8) s7 ∧ (yLst yInt).rep K H' [D44] (.ref D44) s43 ∧ Dj F1 [D44] ∧ Dj F2 [D44] ∧ Dj [D8] [D44] ∧ (∀ a ∈ [D44], H0 a = none) ∧ Mi.forN (Mi.m_newly_reached_b2 d0 d1 d2 s7) s43 (List.drop i g41) = some e42) (fun D44 H52 np51 c50 r45 => ⟨([] : (List Int)), c0.trans c50.none, (Ty.fz r0 c50), (Ty.ex r1 c50), (Ty.ex r2 c50), (Ty.ex r9 c50), r45, Ty.nin r1 np51, Ty.nin r2 np51, Ty.nin r9 np51, one_fresh (c0.dom D44 np51), he42⟩) (fun D44 i55 x54 H56 hx53 hp => ?_) (fun D44 H' np51 hp => ?_)
    ·
      obtain ⟨s43, c0, r0, r1, r2, r9, r45, d46, d47, d48, n49, hle42⟩ := hp
      obtain ⟨_, hbe42, hle42⟩ := Mi.forN_go hle42 hx53
      unfold Mi.m_newly_reached_b2 at hbe42
      refine g_name (σ' := [some v0, some v1, some v2, some (.ref D8), some (.int x54)]) rfl ?_
      refine ⟨rfl, ?_⟩
      obtain ⟨b61, hb61, hbe42⟩ := Mi.bnd hbe42
      refine j_tt b61 (R := fun H' => Chg ([] : List Addr) H0 H' ∧ (yObj C_Chart nm_Chart ty_Chart).rep K H' [] v0 d0 ∧ (yLst (yOpt yInt)).rep K H' F1 v1 d1 ∧ (yLst yBool).rep K H' F2 v2 d2 ∧ (yLst yBool).rep K H' [D8] (.ref D8) s7 ∧ (yLst yInt).rep K H' [D44] (.ref D44) s43) (fun Q' kq => ?_) (fun H' hj => ?_)
      ·
        refine w_and ?_
        obtain ⟨x62, hx62, hb61⟩ := Mi.bnd hb61
        obtain ⟨u63, r64, ku65⟩ := itm_L r2 hx62
        obtain ⟨_, rfl⟩ := r64
        refine c_ans (ans_B (ku65 (val_var rfl) (val_var rfl))) ?_
        refine c_if (fun hb => ?_) (fun hb => ?_)
        rotate_left
        ·
          replace hb61 := Mi.ifF hb hb61
          obtain rfl := Option.some.inj hb61
          exact kq _ ⟨c0, r0, r1, r2, r9, r45⟩
        replace hb61 := Mi.ifT hb hb61
        refine w_and ?_
        obtain ⟨x66, hx66, hb61⟩ := Mi.bnd hb61
        obtain ⟨u67, r68, ku69⟩ := itm_L r1 hx66
        refine c_ans (ans_t (val_isN r68 (ku69 (val_var rfl) (val_var rfl)))) ?_
        refine c_if (fun hb => ?_) (fun hb => ?_)
        rotate_left
        ·
          replace hb61 := Mi.ifF hb hb61
          obtain rfl := Option.some.inj hb61
          exact kq _ ⟨c0, r0, r1, r2, r9, r45⟩
        replace hb61 := Mi.ifT hb hb61
        refine w_B ?_
        refine w_call ?_
        refine w_args (va_cons (val_var rfl) (va_cons (val_var rfl) (va_cons (val_var rfl) va_nil))) ?_
        obtain ⟨q70, hq70, hb61⟩ := Mi.bnd hb61
        refine ⟨v0, d0, x54, (.ref D8), [D8], s7, q70, rfl, r0, r9, hq70, fun H72 c71  => ?_⟩
        have r0 := Ty.fz r0 c71
        have r1 := Ty.ex r1 c71
        have r2 := Ty.ex r2 c71
        have r9 := Ty.ex r9 c71
        have r45 := Ty.ex r45 c71
        have c0 := c0.trans c71.none
        refine ⟨_, rfl, ?_⟩
        obtain rfl := Option.some.inj hb61
        exact kq _ ⟨c0, r0, r1, r2, r9, r45⟩
      obtain ⟨c0, r0, r1, r2, r9, r45⟩ := hj
      refine c_if (fun hb => ?_) (fun hb => ?_)
      ·
        replace hbe42 := Mi.ifT hb hbe42
        refine c_val (val_var rfl) ?_
        obtain ⟨x73, hx73, hbe42⟩ := Mi.bnd hbe42
        refine e_app r45 yInt_i hx73 fun H75 c74 r45 => ?_
        have r0 := Ty.fz r0 c74
        have r1 := Ty.chg r1 c74 d46
        have r2 := Ty.chg r2 c74 d47
        have r9 := Ty.chg r9 c74 d48
        have c0 := c0.join c74 (fun a h => .inr (n49 a h))
        obtain rfl := Option.some.inj hbe42
        exact ⟨x73, c0, r0, r1, r2, r9, r45, d46, d47, d48, n49, hle42⟩
      ·
        replace hbe42 := Mi.ifF hb hbe42
        obtain rfl := Option.some.inj hbe42
        exact ⟨s43, c0, r0, r1, r2, r9, r45, d46, d47, d48, n49, hle42⟩
    obtain ⟨s43, c0, r0, r1, r2, r9, r45, d46, d47, d48, n49, hle42⟩ := hp
    obtain rfl := Mi.forN_end hle42
    obtain rfl := Option.some.inj hm
    exact hQ _ _ _ c0 r45 n49 
abbrev s_arrivals : Stmt := topS 6
abbrev N_arrivals : List Str := ["chart", "start", "draught", "hour", "last", "hours", "now", "found", "place"]
theorem sc_arrivals : FnScope ["chart", "start", "draught", "hour", "last", "hours", "now", "found", "place"] ["chart", "start", "draught", "hour", "last"] (defScope s_arrivals) := ⟨rfl, rfl, rfl, by decide +kernel, rfl, by decide +kernel, by decide +kernel⟩
abbrev dv_arrivals : List V := [.int 0, .int 0, .int 24]
def sp_arrivals (K : PySem.W.Frag) (C_Chart : Addr) : Sp := fun vs H Q _ => ∃ (v0 : V) (d0 : (Int × (List Int) × (List (Int × Int)) × (List Int) × (List Int) × (List (List Int)))) (d1 : Int) (d2 : Int) (d3 : Int) (d4 : Int) (r : (List (Option Int))), vs = [v0, (.int d1), (.int d2), (.int d3), (.int d4)] ∧ (yObj C_Chart nm_Chart ty_Chart).rep K H [] v0 d0 ∧ Mi.m_arrivals d0 d1 d2 d3 d4 = some r ∧ ∀ v H' F, Chg ([]) H H' → (yLst (yOpt yInt)).rep K H' F v r → (∀ a ∈ F, H a = none) → Q v H'
theorem ok_arrivals (B : Bi mg) (CN : Cs K mg) (D : DfnD K mg "arrivals" s_arrivals dv_arrivals) {C_Chart : Addr} (T_Chart : Tx K mg C_Chart "Chart" nm_Chart) (C_open_places : Cal P w K mg "open_places" ["chart", "draught", "hour"] 2 (sp_open_places K C_Chart)) (C_newly_reached : Cal P w K mg "newly_reached" ["chart", "hours", "wet"] 3 (sp_newly_reached K C_Chart)) : CalD P w K mg "arrivals" s_arrivals dv_arrivals ["chart", "start", "draught", "hour", "last"] 4 (sp_arrivals K C_Chart) := by
  obtain ⟨f, fd, F, g⟩ := D.ex
  refine ⟨f, fd, g, F, fun base => okD F sc_arrivals (fun vs H Q E h => ?_) (fun cdv A outer s H0 vs Q E hr h => ?_)⟩
  · obtain ⟨v0, d0, d1, d2, d3, d4, r, rfl, r0, hm, hQ⟩ := h; rfl
  ·
    obtain ⟨v0, d0, d1, d2, d3, d4, r, rfl, r0, hm, hQ⟩ := h
    refine ⟨_, pss_cons (ps_set (i := 5) sc_arrivals.nd rfl (.inl rfl) (pe_op op_rep (pe_lst (pa_cons pe_non pa_nil)) (pe_fldk (K := K) (pv 0) (by rfl))))
      (pss_cons (ps_asg (pv 3) (pg_sub (pv 5) (pv 1) set_list))
      (pss_cons (ps_for PassesOwn.never rfl (pi_range2 (by rfl) B.range (pa_cons (pv 3) (pa_cons (pv 4) pa_nil))) (pg_name (i := 6) sc_arrivals.nd rfl (.inl rfl)) (pss_cons (ps_set (i := 7) sc_arrivals.nd rfl (.inl rfl) (pe_cc C_newly_reached hr (pa_cons (pv 0) (pa_cons (pv 5) (pa_cons (pe_cc C_open_places hr (pa_cons (pv 0) (pa_cons (pv 2) (pa_cons (pv 6) pa_nil)))) pa_nil)))))
      (pss_cons (ps_for PassesOwn.never rfl (pi_list (pv 7)) (pg_name (i := 8) sc_arrivals.nd rfl (.inl rfl)) (pss_cons (ps_asg (pe_op op_add (pv 6) pe_int) (pg_sub (pv 5) (pv 8) set_list))
      (pss_nil)))
      (pss_nil))))
      (pss_cons (ps_ret (pv 5)) pss_nil))), ?_⟩
    have c0 : Chg ([] : List Addr) H0 H0 := Chg.refl H0
    unfold Mi.m_arrivals at hm
    refine q_asg ?_
    refine w_op ?_
    refine w_lst ?_
    refine w_args (va_cons val_c va_nil) ?_
    refine e_lst (K := K) (τ := (yOpt yInt)) (by exact Nat.le_of_ble_eq_true rfl) (.cons opt_n .nil) fun p1 H5 np4 c2 r3 => ?_
    have n6 : ∀ a ∈ [p1], H0 a = none := one_fresh (c0.dom p1 np4)
    have r0 := Ty.fz r0 c2
    have c0 := c0.trans c2.none
    obtain ⟨u7, r8, kx9, ku10⟩ := fld_obj (n := 0) (f := "size") at0 (by decide +kernel) rfl T_Chart.cls (T_Chart.na "size" (by decide +kernel)) r0
    obtain ⟨_, rfl⟩ := r8
    refine c_val (ku10 (val_var rfl)) ?_
    obtain ⟨x11, hx11, hm⟩ := Mi.bnd hm
    refine w_rep r3 hx11 fun p12 H16 np15 c13 r14 => ?_
    have d17 : Dj [p1] [p12] := Ty.nin r3 np15
    have n18 : ∀ a ∈ [p12], H0 a = none := one_fresh (c0.dom p12 np15)
    have r0 := Ty.fz r0 c13
    have r3 := Ty.ex r3 c13
    have c0 := c0.trans c13.none
    refine g_name (σ' := [some v0, some (.int d1), some (.int d2), some (.int d3), some (.int d4), some (.ref p12), none, none, none]) rfl ?_
    refine q_asg ?_
    refine c_val (val_var rfl) ?_
    refine w_gsub ?_
    refine c_val (val_var rfl) ?_
    refine c_val (val_var rfl) ?_
    obtain ⟨x19, hx19, hm⟩ := Mi.bnd hm
    refine m_set r14 (opt_i nn_int yInt_i) hx19 fun H21 c20 r14 => ?_
    have r0 := Ty.fz r0 c20
    have c0 := c0.join c20 (fun a h => .inr (n18 a h))
    refine q_for ?_
    refine w_iRng2 ?_
    refine w_args (va_cons (val_var rfl) (va_cons (val_var rfl) va_nil)) ?_
    obtain ⟨g22, hg22, hm⟩ := Mi.bnd hm
    obtain ⟨e23, he23, hm⟩ := Mi.bnd hm
    refine l_rng2 hg22 (fun i σ' H' => ∃ (s24 : (List (Option Int))) (y25 : Option V) (y26 : Option V) (y27 : Option V), σ' = [some v0, some (.int d1), some (.int d2), some (.int d3), some (.int d4), some (.ref p12), y25, y26, y27] ∧ Chg ([] : List Addr) H0 H' ∧ (yObj C_Chart nm_Chart ty_Chart).rep K H' [] v0 d0 ∧ (yLst (yOpt yInt)).rep K H' [p12] (.ref p12) s24 ∧ Mi.forN (Mi.m_arrivals_b1 d0 d2) s24 (List.drop i g22) = some e23) ⟨x19, none, none, none, rfl, c0, r0, r14, he23⟩ (fun i30 x29 σ' H' hx28 hp => ?_) (fun σ' H' hp => ?_)
    ·
      obtain ⟨s24, y25, y26, y27, rfl, c0, r0, r14, hle23⟩ := hp
      obtain ⟨_, hbe23, hle23⟩ := Mi.forN_go hle23 hx28
      unfold Mi.m_arrivals_b1 at hbe23
      refine g_name (σ' := [some v0, some (.int d1), some (.int d2), some (.int d3), some (.int d4), some (.ref p12), some (.int x29), y26, y27]) rfl ?_
      refine q_asg ?_
      refine w_call ?_
      refine w_cons ?_
      refine c_val (val_var rfl) ?_
      refine w_cons ?_
      refine c_val (val_var rfl) ?_
      refine w_cons ?_
      refine w_call ?_
      refine w_args (va_cons (val_var rfl) (va_cons (val_var rfl) (va_cons (val_var rfl) va_nil))) ?_
      obtain ⟨q31, hq31, hbe23⟩ := Mi.bnd hbe23
      refine ⟨v0, d0, d2, x29, q31, rfl, r0, hq31, fun v34 H33 F36 c32 r35 fr37  => ?_⟩
      have d38 : Dj [p12] F36 := Ty.fresh r14 fr37
      have n39 : ∀ a ∈ F36, H0 a = none := fun a h => c0.dom a (fr37 a h)
      have r0 := Ty.fz r0 c32
      have r14 := Ty.ex r14 c32
      have c0 := c0.trans c32.none
      refine w_nil ?_
      obtain ⟨q40, hq40, hbe23⟩ := Mi.bnd hbe23
      refine ⟨v0, d0, (.ref p12), [p12], s24, v34, F36, q31, q40, rfl, r0, r14, r35, hq40, fun v43 H42 F45 c41 r44 fr46  => ?_⟩
      have d47 : Dj [p12] F45 := Ty.fresh r14 fr46
      have n48 : ∀ a ∈ F45, H0 a = none := fun a h => c0.dom a (fr46 a h)
      have r0 := Ty.fz r0 c41
      have r14 := Ty.ex r14 c41
      have c0 := c0.trans c41.none
      refine g_name (σ' := [some v0, some (.int d1), some (.int d2), some (.int d3), some (.int d4), some (.ref p12), some (.int x29), some v43, y27]) rfl ?_
      refine q_for ?_
      refine w_iList ?_
      refine c_val (val_var rfl) ?_
      obtain ⟨e49, he49, hbe23⟩ := Mi.bnd hbe23
      refine l_lst r44 (fun i σ' H' => ∃ (s50 : (List (Option Int))) (y51 : Option V), σ' = [some v0, some (.int d1), some (.int d2), some (.int d3), some (.int d4), some (.ref p12), some (.int x29), some v43, y51] ∧ Chg ([] : List Addr) H0 H' ∧ (yObj C_Chart nm_Chart ty_Chart).rep K H' [] v0 d0 ∧ (yLst (yOpt yInt)).rep K H' [p12] (.ref p12) s50 ∧ (yLst yInt).rep K H' F45 v43 q40 ∧ Mi.forN (Mi.m_arrivals_b2 x29) s50 (List.drop i q40) = some e49) ⟨s24, y27, rfl, c0, r0, r14, r44, he49⟩ (fun i σ' H' hp => by obtain ⟨s50, y51, rfl, c0, r0, r14, r44, _⟩ := hp; exact r44) (fun i54 x53 u55 σ' H' hx52 r56 hp => ?_) (fun σ' H' hp => ?_)
      ·
        obtain ⟨s50, y51, rfl, c0, r0, r14, r44, hle49⟩ := hp
        obtain ⟨_, hbe49, hle49⟩ := Mi.forN_go hle49 hx52
        unfold Mi.m_arrivals_b2 at hbe49
        obtain ⟨_, rfl⟩ := r56
        refine g_name (σ' := [some v0, some (.int d1), some (.int d2), some (.int d3), some (.int d4), some (.ref p12), some (.int x29), some v43, some (.int x53)]) rfl ?_
        refine q_asg ?_
        refine c_val (val_add (val_var rfl) val_c) ?_
        refine w_gsub ?_
        refine c_val (val_var rfl) ?_
        refine c_val (val_var rfl) ?_
        obtain ⟨x57, hx57, hbe49⟩ := Mi.bnd hbe49
        refine m_set r14 (opt_i nn_int yInt_i) hx57 fun H59 c58 r14 => ?_
        have r0 := Ty.fz r0 c58
        have r44 := Ty.chg r44 c58 d47.symm
        have c0 := c0.join c58 (fun a h => .inr (n18 a h))
        refine w_nextJ ?_
        obtain rfl := Option.some.inj hbe49
        exact ⟨_, (some (.int x53)), rfl, c0, r0, r14, r44, hle49⟩
      obtain ⟨s50, y51, rfl, c0, r0, r14, r44, hle49⟩ := hp
      obtain rfl := Mi.forN_end hle49
      refine w_nextJ ?_
      obtain rfl := Option.some.inj hbe23
      exact ⟨_, (some (.int x29)), (some v43), y51, rfl, c0, r0, r14, hle23⟩
    obtain ⟨s24, y25, y26, y27, rfl, c0, r0, r14, hle23⟩ := hp
    obtain rfl := Mi.forN_end hle23
    refine q_ret ?_
    refine c_val (val_var rfl) ?_
    obtain rfl := Option.some.inj hm
    exact hQ _ _ _ c0 r14 n18 
abbrev s_l_hand : Stmt := topS 26
abbrev N_l_hand : List Str := ["_law_script", "_law_k", "_law_cell", "_law_rest"]
theorem sc_l_hand : FnScope ["_law_script", "_law_k", "_law_cell", "_law_rest"] ["_law_script", "_law_k"] (defScope s_l_hand) := ⟨rfl, rfl, rfl, by decide +kernel, rfl, by decide +kernel, by decide +kernel⟩
def sp_l_hand (K : PySem.W.Frag) : Sp := fun vs H Q _ => ∃ (v0 : V) (d0 : (List Int)) (d1 : Int) (r : (List Int)), vs = [v0, (.int d1)] ∧ yScr.rep K H [] v0 d0 ∧ Mi.m_l_hand d0 d1 = some r ∧ ∀ v H' F, Chg ([]) H H' → (yLst yInt).rep K H' F v r → (∀ a ∈ F, H a = none) → Q v H'
theorem ok_l_hand (B : Bi mg) (CN : Cs K mg) (D : Dfn K mg "_law_hand" s_l_hand)  : Cal P w K mg "_law_hand" ["_law_script", "_law_k"] 1 (sp_l_hand K) := by
  obtain ⟨f, fd, F, g⟩ := D.ex
  refine ⟨f, fd, g, F.kp, bindsF F (fun _ _ _ _ _ _ us hl => match us, hl with | [_, _], _ => rfl), fun base => F.ok sc_l_hand (fun vs H Q E h => ?_) (fun cdv A outer s H0 vs Q E hr h => ?_)⟩
  · obtain ⟨v0, d0, d1, r, rfl, r0, hm, hQ⟩ := h; rfl
  ·
    obtain ⟨v0, d0, d1, r, rfl, r0, hm, hQ⟩ := h
    refine ⟨_, pss_cons (ps_set (i := 2) sc_l_hand.nd rfl (.inl rfl) pe_int)
      (pss_cons (ps_if (pt_cmpR op_lt (pv 1) (pe_callB (cl_len (K := K)) (by rfl) B.len PySem.boot_len (pa_cons (pv 0) pa_nil)) (nomark _)) (pss_cons (ps_set (i := 2) sc_l_hand.nd rfl (.inl rfl) (pe_ix (ix_l (K := K)) (pv 0) (pv 1) (fun _ _ => rfl)))
      (pss_nil)) (pss_nil))
      (pss_cons (ps_if (pt_cmpR op_lt (pv 2) pe_int (nomark _)) (pss_cons (ps_set (i := 2) sc_l_hand.nd rfl (.inl rfl) (pe_op op_sub pe_int (pe_op op_mul pe_int (pv 2))))
      (pss_nil)) (pss_nil))
      (pss_cons (ps_set (i := 3) sc_l_hand.nd rfl (.inl rfl) pe_int)
      (pss_cons (ps_if (pt_cmpR op_ge (pv 2) (pe_op op_pow pe_int pe_int) (nomark _)) (pss_cons (ps_set (i := 3) sc_l_hand.nd rfl (.inl rfl) (pv 2))
      (pss_nil)) (pss_nil))
      (pss_cons (ps_ret (pe_lst (pa_cons (pv 3) (pa_cons (pe_op op_mod (pe_callTy cl_int (by rfl) B.int (by decide +kernel) (pa_cons (pe_op op_add (pe_op op_add (pv 2) (pe_op op_mul pe_int (pv 1))) pe_int) pa_nil)) pe_int) (pa_cons pe_int pa_nil))))) pss_nil))))), ?_⟩
    have c0 : Chg ([] : List Addr) H0 H0 := Chg.refl H0
    unfold Mi.m_l_hand at hm
    obtain ⟨cell1, hcell1, hm⟩ := Mi.letE hm
    refine q_setE val_c (congrArg V.int hcell1) (σ' := [some v0, some (.int d1), some (.int cell1), none]) rfl ?_
    obtain ⟨s2, hs2, hm⟩ := Mi.bnd hm
    refine s_join (R := fun σ' H' => σ' = [some v0, some (.int d1), some (.int s2), none] ∧ Chg ([] : List Addr) H0 H' ∧ yScr.rep K H' [] v0 d0) (fun nx kx => ?_) (fun σ' H' hj => ?_)
    ·
      refine s_if (ans_t (val_lt (val_var rfl) (val_lenS r0 (val_var rfl)))) (fun hb => ?_) (fun hb => ?_)
      ·
        replace hs2 := Mi.ifT hb hs2
        obtain ⟨x3, hx3, hs2⟩ := Mi.bnd hs2
        obtain ⟨cell4, hcell4, hs2⟩ := Mi.letE hs2
        refine q_setE (itm_S r0 hx3 (val_var rfl) (val_var rfl)) (congrArg V.int hcell4) (σ' := [some v0, some (.int d1), some (.int cell4), none]) rfl ?_
        refine w_nextJ ?_
        obtain rfl := Option.some.inj hs2
        exact kx _ _ ⟨rfl, c0, r0⟩
      ·
        replace hs2 := Mi.ifF hb hs2
        refine w_nextJ ?_
        obtain rfl := Option.some.inj hs2
        exact kx _ _ ⟨rfl, c0, r0⟩
    obtain ⟨rfl, c0, r0⟩ := hj
    obtain ⟨s5, hs5, hm⟩ := Mi.bnd hm
    refine s_join (R := fun σ' H' => σ' = [some v0, some (.int d1), some (.int s5), none] ∧ Chg ([] : List Addr) H0 H' ∧ yScr.rep K H' [] v0 d0) (fun nx kx => ?_) (fun σ' H' hj => ?_)
    ·
      refine s_if (ans_t (val_lt (val_var rfl) val_c)) (fun hb => ?_) (fun hb => ?_)
      ·
        replace hs5 := Mi.ifT hb hs5
        obtain ⟨cell6, hcell6, hs5⟩ := Mi.letE hs5
        refine q_setE (val_sub val_c (val_mulL val_c (val_var rfl) ⟨by decide, by decide⟩)) (congrArg V.int hcell6) (σ' := [some v0, some (.int d1), some (.int cell6), none]) rfl ?_
        refine w_nextJ ?_
        obtain rfl := Option.some.inj hs5
        exact kx _ _ ⟨rfl, c0, r0⟩
      ·
        replace hs5 := Mi.ifF hb hs5
        refine w_nextJ ?_
        obtain rfl := Option.some.inj hs5
        exact kx _ _ ⟨rfl, c0, r0⟩
    obtain ⟨rfl, c0, r0⟩ := hj
    obtain ⟨rest7, hrest7, hm⟩ := Mi.letE hm
    refine q_setE val_c (congrArg V.int hrest7) (σ' := [some v0, some (.int d1), some (.int s5), some (.int rest7)]) rfl ?_
    obtain ⟨s8, hs8, hm⟩ := Mi.bnd hm
    refine s_join (R := fun σ' H' => σ' = [some v0, some (.int d1), some (.int s5), some (.int s8)] ∧ Chg ([] : List Addr) H0 H' ∧ yScr.rep K H' [] v0 d0) (fun nx kx => ?_) (fun σ' H' hj => ?_)
    ·
      refine s_if (ans_t (val_ge (val_var rfl) (val_pow (n := 18) val_c val_c rfl (by decide) (by decide)))) (fun hb => ?_) (fun hb => ?_)
      ·
        replace hs8 := Mi.ifT hb hs8
        obtain ⟨rest9, hrest9, hs8⟩ := Mi.letE hs8
        refine q_setE (val_var rfl) (congrArg V.int hrest9) (σ' := [some v0, some (.int d1), some (.int s5), some (.int rest9)]) rfl ?_
        refine w_nextJ ?_
        obtain rfl := Option.some.inj hs8
        exact kx _ _ ⟨rfl, c0, r0⟩
      ·
        replace hs8 := Mi.ifF hb hs8
        refine w_nextJ ?_
        obtain rfl := Option.some.inj hs8
        exact kx _ _ ⟨rfl, c0, r0⟩
    obtain ⟨rfl, c0, r0⟩ := hj
    refine q_ret ?_
    refine w_lst ?_
    refine w_args (va_cons (val_var rfl) (va_cons (val_modc (val_int (val_add (val_add (val_var rfl) (val_mulL val_c (val_var rfl) ⟨by decide, by decide⟩)) val_c)) val_c (by decide)) (va_cons val_c va_nil))) ?_
    refine e_lst (K := K) (τ := yInt) (by exact Nat.le_of_ble_eq_true rfl) (.cons yInt_i (.cons yInt_i (.cons yInt_i .nil))) fun p10 H14 np13 c11 r12 => ?_
    have n15 : ∀ a ∈ [p10], H0 a = none := one_fresh (c0.dom p10 np13)
    have r0 := Ty.fz r0 c11
    have c0 := c0.trans c11.none
    obtain rfl := Option.some.inj hm
    exact hQ _ _ _ c0 r12 n15 
abbrev s_l_pick : Stmt := topS 27
abbrev N_l_pick : List Str := ["_law_hand_here", "_law_size", "_law_digit", "_law_mixed"]
theorem sc_l_pick : FnScope ["_law_hand_here", "_law_size", "_law_digit", "_law_mixed"] ["_law_hand_here", "_law_size"] (defScope s_l_pick) := ⟨rfl, rfl, rfl, by decide +kernel, rfl, by decide +kernel, by decide +kernel⟩
def sp_l_pick (K : PySem.W.Frag) : Sp := fun vs H Q _ => ∃ (v0 : V) (F0 : List Addr) (d0 : (List Int)) (d1 : Int) (r : (Int × (List Int))), vs = [v0, (.int d1)] ∧ (yLst yInt).rep K H F0 v0 d0 ∧ Mi.m_l_pick d0 d1 = some r ∧ ∀ H', Chg (F0) H H' → (yLst yInt).rep K H' F0 v0 r.2 → Q (.int r.1) H'
theorem ok_l_pick (B : Bi mg) (CN : Cs K mg) (D : Dfn K mg "_law_pick" s_l_pick)  : Cal P w K mg "_law_pick" ["_law_hand_here", "_law_size"] 1 (sp_l_pick K) := by
  obtain ⟨f, fd, F, g⟩ := D.ex
  refine ⟨f, fd, g, F.kp, bindsF F (fun _ _ _ _ _ _ us hl => match us, hl with | [_, _], _ => rfl), fun base => F.ok sc_l_pick (fun vs H Q E h => ?_) (fun cdv A outer s H0 vs Q E hr h => ?_)⟩
  · obtain ⟨v0, F0, d0, d1, r, rfl, r0, hm, hQ⟩ := h; rfl
  ·
    obtain ⟨v0, F0, d0, d1, r, rfl, r0, hm, hQ⟩ := h
    refine ⟨_, pss_cons (ps_if (pt_cmpR op_lt (pv 1) pe_int (nomark _)) (pss_cons (ps_ret pe_int) pss_nil) (pss_nil))
      (pss_cons (ps_if (pt_cmpR op_gt (pe_ix (ix_l (K := K)) (pv 0) pe_int (fun _ _ => rfl)) pe_int (nomark _)) (pss_cons (ps_set (i := 2) sc_l_pick.nd rfl (.inl rfl) (pe_op op_mod (pe_callTy cl_int (by rfl) B.int (by decide +kernel) (pa_cons (pe_ix (ix_l (K := K)) (pv 0) pe_int (fun _ _ => rfl)) pa_nil)) (pv 1)))
      (pss_cons (ps_asg (pe_op op_fdivW (pe_ix (ix_l (K := K)) (pv 0) pe_int (fun _ _ => rfl)) (pv 1)) (pg_sub (pv 0) pe_int set_list))
      (pss_cons (ps_ret (pv 2)) pss_nil))) (pss_nil))
      (pss_cons (ps_asg (pe_op op_add (pe_ix (ix_l (K := K)) (pv 0) pe_int (fun _ _ => rfl)) pe_int) (pg_sub (pv 0) pe_int set_list))
      (pss_cons (ps_set (i := 3) sc_l_pick.nd rfl (.inl rfl) (pe_op op_mod (pe_callTy cl_int (by rfl) B.int (by decide +kernel) (pa_cons (pe_op op_add (pe_op op_add (pe_ix (ix_l (K := K)) (pv 0) pe_int (fun _ _ => rfl)) (pe_op op_mul pe_int (pe_ix (ix_l (K := K)) (pv 0) pe_int (fun _ _ => rfl)))) pe_int) pa_nil)) pe_int))
      (pss_cons (ps_set (i := 3) sc_l_pick.nd rfl (.inl rfl) (pe_op op_mod (pe_callTy cl_int (by rfl) B.int (by decide +kernel) (pa_cons (pe_op op_mul (pv 3) (pe_op op_add (pv 3) pe_int)) pa_nil)) pe_int))
      (pss_cons (ps_set (i := 3) sc_l_pick.nd rfl (.inl rfl) (pe_op op_mod (pe_callTy cl_int (by rfl) B.int (by decide +kernel) (pa_cons (pe_op op_add (pe_op op_mul (pv 3) (pe_op op_add (pv 3) pe_int)) (pe_op op_mul pe_int (pe_ix (ix_l (K := K)) (pv 0) pe_int (fun _ _ => rfl)))) pa_nil)) pe_int))
      (pss_cons (ps_ret (pe_op op_mod (pe_callTy cl_int (by rfl) B.int (by decide +kernel) (pa_cons (pe_op op_fdiv (pv 3) pe_int) pa_nil)) (pv 1))) pss_nil)))))), ?_⟩
    have c0 : Chg (F0) H0 H0 := Chg.refl H0
    unfold Mi.m_l_pick at hm
    refine q_if (ans_t (val_lt (val_var rfl) val_c)) (fun hb => ?_) (fun hb => ?_)
    ·
      replace hm := Mi.ifT hb hm
      refine q_ret ?_
      refine c_val val_c ?_
      obtain rfl := Option.some.inj hm
      exact hQ _ c0 r0
    replace hm := Mi.ifF hb hm
    refine w_fall ?_
    obtain ⟨x1, hx1, hm⟩ := Mi.bnd hm
    refine q_if (ans_t (val_gt (itm_LI r0 hx1 (val_var rfl) val_c) val_c)) (fun hb => ?_) (fun hb => ?_)
    ·
      replace hm := Mi.ifT hb hm
      obtain ⟨x2, hx2, hm⟩ := Mi.bnd hm
      obtain ⟨x3, hx3, hm⟩ := Mi.bnd hm
      obtain ⟨digit4, hdigit4, hm⟩ := Mi.letE hm
      refine q_setE (val_mod (val_int (itm_LI r0 hx2 (val_var rfl) val_c)) (val_var rfl) hx3) (congrArg V.int hdigit4) (σ' := [some v0, some (.int d1), some (.int digit4), none]) rfl ?_
      refine q_asg ?_
      obtain ⟨x5, hx5, hm⟩ := Mi.bnd hm
      obtain ⟨x6, hx6, hm⟩ := Mi.bnd hm
      refine c_val (val_fdiv (itm_LI r0 hx5 (val_var rfl) val_c) (val_var rfl) hx6) ?_
      refine w_gsub ?_
      refine c_val (val_var rfl) ?_
      refine c_val val_c ?_
      obtain ⟨x7, hx7, hm⟩ := Mi.bnd hm
      refine m_set r0 yInt_i hx7 fun H9 c8 r0 => ?_
      have c0 := c0.join c8 (fun a h => .inl (h))
      refine q_ret ?_
      refine c_val (val_var rfl) ?_
      obtain rfl := Option.some.inj hm
      exact hQ _ c0 r0
    replace hm := Mi.ifF hb hm
    refine w_fall ?_
    refine q_asg ?_
    obtain ⟨x10, hx10, hm⟩ := Mi.bnd hm
    refine c_val (val_add (itm_LI r0 hx10 (val_var rfl) val_c) val_c) ?_
    refine w_gsub ?_
    refine c_val (val_var rfl) ?_
    refine c_val val_c ?_
    obtain ⟨x11, hx11, hm⟩ := Mi.bnd hm
    refine m_set r0 yInt_i hx11 fun H13 c12 r0 => ?_
    have c0 := c0.join c12 (fun a h => .inl (h))
    obtain ⟨x14, hx14, hm⟩ := Mi.bnd hm
    obtain ⟨x15, hx15, hm⟩ := Mi.bnd hm
    obtain ⟨mixed16, hmixed16, hm⟩ := Mi.letE hm
    refine q_setE (val_modc (val_int (val_add (val_add (itm_LI r0 hx14 (val_var rfl) val_c) (val_mulL val_c (itm_LI r0 hx15 (val_var rfl) val_c) ⟨by decide, by decide⟩)) val_c)) val_c (by decide)) (congrArg V.int hmixed16) (σ' := [some v0, some (.int d1), none, some (.int mixed16)]) rfl ?_
    obtain ⟨x17, hx17, hm⟩ := Mi.bnd hm
    obtain ⟨mixed18, hmixed18, hm⟩ := Mi.letE hm
    refine q_setE (val_modc (val_int (val_mul (val_var rfl) (val_add (val_var rfl) val_c) hx17)) val_c (by decide)) (congrArg V.int hmixed18) (σ' := [some v0, some (.int d1), none, some (.int mixed18)]) rfl ?_
    obtain ⟨x19, hx19, hm⟩ := Mi.bnd hm
    obtain ⟨x20, hx20, hm⟩ := Mi.bnd hm
    obtain ⟨mixed21, hmixed21, hm⟩ := Mi.letE hm
    refine q_setE (val_modc (val_int (val_add (val_mul (val_var rfl) (val_add (val_var rfl) val_c) hx19) (val_mulL val_c (itm_LI r0 hx20 (val_var rfl) val_c) ⟨by decide, by decide⟩))) val_c (by decide)) (congrArg V.int hmixed21) (σ' := [some v0, some (.int d1), none, some (.int mixed21)]) rfl ?_
    refine q_ret ?_
    obtain ⟨x22, hx22, hm⟩ := Mi.bnd hm
    refine c_val (val_mod (val_int (val_divc (val_var rfl) val_c ⟨by decide, by decide⟩)) (val_var rfl) hx22) ?_
    obtain rfl := Option.some.inj hm
    exact hQ _ c0 r0
abbrev s_l_int : Stmt := topS 28
abbrev N_l_int : List Str := ["_law_x"]
theorem sc_l_int : FnScope ["_law_x"] ["_law_x"] (defScope s_l_int) := ⟨rfl, rfl, rfl, by decide +kernel, rfl, by decide +kernel, by decide +kernel⟩
def sp_l_int (K : PySem.W.Frag) : Sp := fun vs H Q _ => (∃ (d0 : Int) (r : Bool), vs = [(.int d0)] ∧ Mi.m_l_int_0 d0 = some r ∧ ∀ H', Chg ([]) H H' → Q (.bl r) H') ∨ (∃ (v0 : V) (d0 : (Option Int)) (r : Bool), vs = [v0] ∧ (yOpt yInt).rep K H [] v0 d0 ∧ Mi.m_l_int_1 d0 = some r ∧ ∀ H', Chg ([]) H H' → Q (.bl r) H')
theorem ok_l_int (B : Bi mg) (CN : Cs K mg) (D : Dfn K mg "_law_int" s_l_int)  : Cal P w K mg "_law_int" ["_law_x"] 1 (sp_l_int K) := by
  obtain ⟨f, fd, F, g⟩ := D.ex
  refine ⟨f, fd, g, F.kp, bindsF F (fun _ _ _ _ _ _ us hl => match us, hl with | [_], _ => rfl), fun base => F.ok sc_l_int (fun vs H Q E h => ?_) (fun cdv A outer s H0 vs Q E hr h => ?_)⟩
  · rcases h with ⟨d0, r, rfl, hm, hQ⟩ | ⟨v0, d0, r, rfl, r0, hm, hQ⟩
    all_goals rfl
  · rcases h with h | h
    ·
      obtain ⟨d0, r, rfl, hm, hQ⟩ := h
      refine ⟨_, pss_cons (ps_ret (pe_and (pe_callB (cl_isi (K := K)) (by rfl) B.isinstance (by decide +kernel) (pa_cons (pv 0) (pa_cons (pe_bltn (v := .ty "int") (by rfl) B.int (by decide +kernel) rfl) pa_nil))) (pe_one (pe_not (pe_callB (cl_isi (K := K)) (by rfl) B.isinstance (by decide +kernel) (pa_cons (pv 0) (pa_cons (pe_bltn (v := .ty "bool") (by rfl) B.bool (by decide +kernel) rfl) pa_nil))))))) pss_nil, ?_⟩
      have c0 : Chg ([] : List Addr) H0 H0 := Chg.refl H0
      unfold Mi.m_l_int_0 at hm
      refine q_ret ?_
      refine c_val (val_andV (val_isi (val_var rfl) ty_int (n := "int") (m := "int") (b := true) (by decide +kernel)) (fun _ => (val_notV (val_isi (val_var rfl) ty_int (n := "int") (m := "bool") (b := false) (by decide +kernel))))) ?_
      obtain rfl := Option.some.inj hm
      exact hQ _ c0 
    ·
      obtain ⟨v0, d0, r, rfl, r0, hm, hQ⟩ := h
      refine ⟨_, pss_cons (ps_ret (pe_and (pe_callB (cl_isi (K := K)) (by rfl) B.isinstance (by decide +kernel) (pa_cons (pv 0) (pa_cons (pe_bltn (v := .ty "int") (by rfl) B.int (by decide +kernel) rfl) pa_nil))) (pe_one (pe_not (pe_callB (cl_isi (K := K)) (by rfl) B.isinstance (by decide +kernel) (pa_cons (pv 0) (pa_cons (pe_bltn (v := .ty "bool") (by rfl) B.bool (by decide +kernel) rfl) pa_nil))))))) pss_nil, ?_⟩
      have c0 : Chg ([] : List Addr) H0 H0 := Chg.refl H0
      unfold Mi.m_l_int_1 at hm
      refine q_ret ?_
      refine c_val (val_andV (val_isiO (n := "int") (m := "int") (b := true) tyr_int r0 (val_var rfl) (by decide +kernel) (by decide +kernel)) (fun _ => (val_notV (val_isiO (n := "int") (m := "bool") (b := false) tyr_int r0 (val_var rfl) (by decide +kernel) (by decide +kernel))))) ?_
      obtain rfl := Option.some.inj hm
      exact hQ _ c0 
abbrev s_l_some : Stmt := topS 29
abbrev N_l_some : List Str := ["_law_hand_here", "_law_size", "_law_share", "_law_zone", "_law_place"]
theorem sc_l_some : FnScope ["_law_hand_here", "_law_size", "_law_share", "_law_zone", "_law_place"] ["_law_hand_here", "_law_size", "_law_share"] (defScope s_l_some) := ⟨rfl, rfl, rfl, by decide +kernel, rfl, by decide +kernel, by decide +kernel⟩
def sp_l_some (K : PySem.W.Frag) : Sp := fun vs H Q _ => ∃ (v0 : V) (F0 : List Addr) (d0 : (List Int)) (d1 : Int) (d2 : Int) (r : ((List Int) × (List Int))), vs = [v0, (.int d1), (.int d2)] ∧ (yLst yInt).rep K H F0 v0 d0 ∧ Mi.m_l_some d0 d1 d2 = some r ∧ ∀ v H' F, Chg (F0) H H' → (yLst yInt).rep K H' F v r.1 → (∀ a ∈ F, H a = none) → (yLst yInt).rep K H' F0 v0 r.2 → Q v H'
theorem ok_l_some (B : Bi mg) (CN : Cs K mg) (D : Dfn K mg "_law_some" s_l_some) (C_l_pick : Cal P w K mg "_law_pick" ["_law_hand_here", "_law_size"] 1 (sp_l_pick K)) : Cal P w K mg "_law_some" ["_law_hand_here", "_law_size", "_law_share"] 2 (sp_l_some K) := by
  obtain ⟨f, fd, F, g⟩ := D.ex
  refine ⟨f, fd, g, F.kp, bindsF F (fun _ _ _ _ _ _ us hl => match us, hl with | [_, _, _], _ => rfl), fun base => F.ok sc_l_some (fun vs H Q E h => ?_) (fun cdv A outer s H0 vs Q E hr h => ?_)⟩
  · obtain ⟨v0, F0, d0, d1, d2, r, rfl, r0, hm, hQ⟩ := h; rfl
  ·
    obtain ⟨v0, F0, d0, d1, d2, r, rfl, r0, hm, hQ⟩ := h
    refine ⟨_, pss_cons (ps_set (i := 3) sc_l_some.nd rfl (.inl rfl) (pe_lst pa_nil))
      (pss_cons (ps_for PassesOwn.never rfl (pi_range1 (by rfl) B.range (pa_cons (pv 1) pa_nil)) (pg_name (i := 4) sc_l_some.nd rfl (.inl rfl)) (pss_cons (ps_if (pt_cmpR op_eq (pe_cc C_l_pick hr (pa_cons (pv 0) (pa_cons (pv 2) pa_nil))) pe_int (nomark _)) (pss_cons (ps_expr (pe_bm PySem.F.plainAttrs_list PySem.F.slot_list_append PySem.F.type_list_append mt_append (pv 3) (pa_cons (pv 4) pa_nil)))
      (pss_nil)) (pss_nil))
      (pss_nil)))
      (pss_cons (ps_ret (pv 3)) pss_nil)), ?_⟩
    have c0 : Chg (F0) H0 H0 := Chg.refl H0
    unfold Mi.m_l_some at hm
    refine q_asg ?_
    refine w_lst ?_
    refine w_args va_nil ?_
    refine e_lst (K := K) (τ := yInt) (by exact Nat.le_of_ble_eq_true rfl) .nil fun p1 H5 np4 c2 r3 => ?_
    have d6 : Dj F0 [p1] := Ty.nin r0 np4
    have n7 : ∀ a ∈ [p1], H0 a = none := one_fresh (c0.dom p1 np4)
    have r0 := Ty.ex r0 c2
    have c0 := c0.trans c2.none
    refine g_name (σ' := [some v0, some (.int d1), some (.int d2), some (.ref p1), none]) rfl ?_
    refine q_for ?_
    refine w_iRng1 ?_
    refine w_args (va_cons (val_var rfl) va_nil) ?_
    obtain ⟨g8, hg8, hm⟩ := Mi.bnd hm
    obtain ⟨e9, he9, hm⟩ := Mi.bnd hm
    refine l_rng1 hg8 (fun i σ' H' => ∃ (s10 : ((List Int) × (List Int))) (y11 : Option V), σ' = [some v0, some (.int d1), some (.int d2), some (.ref p1), y11] ∧ Chg (F0) H0 H' ∧ (yLst yInt).rep K H' F0 v0 s10.1 ∧ (yLst yInt).rep K H' [p1] (.ref p1) s10.2 ∧ Mi.forN (Mi.m_l_some_b1 d2) s10 (List.drop i g8) = some e9) ⟨(d0, ([] : (List Int))), none, rfl, c0, r0, r3, he9⟩ (fun i14 x13 σ' H' hx12 hp => ?_) (fun σ' H' hp => ?_)
    ·
      obtain ⟨s10, y11, rfl, c0, r0, r3, hle9⟩ := hp
      obtain ⟨_, hbe9, hle9⟩ := Mi.forN_go hle9 hx12
      unfold Mi.m_l_some_b1 at hbe9
      refine g_name (σ' := [some v0, some (.int d1), some (.int d2), some (.ref p1), some (.int x13)]) rfl ?_
      obtain ⟨s15, hs15, hbe9⟩ := Mi.bnd hbe9
      refine s_join (R := fun σ' H' => σ' = [some v0, some (.int d1), some (.int d2), some (.ref p1), some (.int x13)] ∧ Chg (F0) H0 H' ∧ (yLst yInt).rep K H' F0 v0 s15.1 ∧ (yLst yInt).rep K H' [p1] (.ref p1) s15.2) (fun nx kx => ?_) (fun σ' H' hj => ?_)
      ·
        refine w_ifS ?_
        refine w_test ?_
        refine w_op ?_
        refine w_call ?_
        refine w_args (va_cons (val_var rfl) (va_cons (val_var rfl) va_nil)) ?_
        obtain ⟨q16, hq16, hs15⟩ := Mi.bnd hs15
        refine ⟨v0, F0, s10.1, d2, q16, rfl, r0, hq16, fun H18 c17 r0 => ?_⟩
        have r3 := Ty.chg r3 c17 d6.symm
        have c0 := c0.join c17 (fun a h => .inl (h))
        refine c_val val_c ?_
        refine w_eqI ?_
        refine ⟨_, rfl, ?_⟩
        refine c_if (fun hb => ?_) (fun hb => ?_)
        ·
          replace hs15 := Mi.ifT hb hs15
          refine q_drop (w_bm (c_val (val_var rfl) ⟨tyv_lst r3, ?_⟩))
          refine w_args (va_cons (val_var rfl) va_nil) ?_
          obtain ⟨x19, hx19, hs15⟩ := Mi.bnd hs15
          refine m_app r3 yInt_i hx19 fun H21 c20 r3 => ?_
          have r0 := Ty.chg r0 c20 d6
          have c0 := c0.join c20 (fun a h => .inr (n7 a h))
          refine w_nextJ ?_
          obtain rfl := Option.some.inj hs15
          exact kx _ _ ⟨rfl, c0, r0, r3⟩
        ·
          replace hs15 := Mi.ifF hb hs15
          refine w_nextJ ?_
          obtain rfl := Option.some.inj hs15
          exact kx _ _ ⟨rfl, c0, r0, r3⟩
      obtain ⟨rfl, c0, r0, r3⟩ := hj
      refine w_nextJ ?_
      obtain rfl := Option.some.inj hbe9
      exact ⟨_, (some (.int x13)), rfl, c0, r0, r3, hle9⟩
    obtain ⟨s10, y11, rfl, c0, r0, r3, hle9⟩ := hp
    obtain rfl := Mi.forN_end hle9
    refine q_ret ?_
    refine c_val (val_var rfl) ?_
    obtain rfl := Option.some.inj hm
    exact hQ _ _ _ c0 r3 n7 r0
abbrev s_l_sea : Stmt := topS 30
abbrev N_l_sea : List Str := ["_law_hand_here", "_law_most", "_law_size", "_law_span", "_law_swell", "_law_deeps", "_law_joins", "_law_b", "_law_a", "_law_flows_here", "_law_turn"]
theorem sc_l_sea : FnScope ["_law_hand_here", "_law_most", "_law_size", "_law_span", "_law_swell", "_law_deeps", "_law_joins", "_law_b", "_law_a", "_law_flows_here", "_law_turn"] ["_law_hand_here", "_law_most"] (defScope s_l_sea) := ⟨rfl, rfl, rfl, by decide +kernel, rfl, by decide +kernel, by decide +kernel⟩
def sp_l_sea (K : PySem.W.Frag) : Sp := fun vs H Q _ => ∃ (v0 : V) (F0 : List Addr) (d0 : (List Int)) (d1 : Int) (r : (((List Int) × (List (Int × Int)) × (List Int) × (List Int)) × (List Int))), vs = [v0, (.int d1)] ∧ (yLst yInt).rep K H F0 v0 d0 ∧ Mi.m_l_sea d0 d1 = some r ∧ ∀ v H' F, Chg (F0) H H' → (yTup (sCons (yLst yInt) (sCons (yLst (yTup (sCons yInt (sOne yInt)))) (sCons (yLst yInt) (sOne (yLst yInt)))))).rep K H' F v r.1 → (∀ a ∈ F, H a = none) → (yLst yInt).rep K H' F0 v0 r.2 → Q v H'
theorem ok_l_sea (B : Bi mg) (CN : Cs K mg) (D : Dfn K mg "_law_sea" s_l_sea) (C_l_pick : Cal P w K mg "_law_pick" ["_law_hand_here", "_law_size"] 1 (sp_l_pick K)) (C_l_some : Cal P w K mg "_law_some" ["_law_hand_here", "_law_size", "_law_share"] 2 (sp_l_some K)) : Cal P w K mg "_law_sea" ["_law_hand_here", "_law_most"] 3 (sp_l_sea K) := by
  obtain ⟨f, fd, F, g⟩ := D.ex
  refine ⟨f, fd, g, F.kp, bindsF F (fun _ _ _ _ _ _ us hl => match us, hl with | [_, _], _ => rfl), fun base => F.ok sc_l_sea (fun vs H Q E h => ?_) (fun cdv A outer s H0 vs Q E hr h => ?_)⟩
  · obtain ⟨v0, F0, d0, d1, r, rfl, r0, hm, hQ⟩ := h; rfl
  ·
    obtain ⟨v0, F0, d0, d1, r, rfl, r0, hm, hQ⟩ := h
    refine ⟨_, pss_cons (ps_set (i := 2) sc_l_sea.nd rfl (.inl rfl) (pe_op op_add pe_int (pe_cc C_l_pick hr (pa_cons (pv 0) (pa_cons (pv 1) pa_nil)))))
      (pss_cons (ps_set (i := 3) sc_l_sea.nd rfl (.inl rfl) (pe_ix (ix_l (K := K)) (pe_lst (pa_cons pe_int (pa_cons pe_int (pa_cons pe_int pa_nil)))) (pe_cc C_l_pick hr (pa_cons (pv 0) (pa_cons pe_int pa_nil))) (fun _ _ => rfl)))
      (pss_cons (ps_set (i := 4) sc_l_sea.nd rfl (.inl rfl) (pe_ix (ix_l (K := K)) (pe_lst (pa_cons pe_int (pa_cons pe_int (pa_cons pe_int pa_nil)))) (pe_cc C_l_pick hr (pa_cons (pv 0) (pa_cons pe_int pa_nil))) (fun _ _ => rfl)))
      (pss_cons (ps_set (i := 5) sc_l_sea.nd rfl (.inl rfl) (pe_lst pa_nil))
      (pss_cons (ps_set (i := 6) sc_l_sea.nd rfl (.inl rfl) (pe_lst pa_nil))
      (pss_cons (ps_for PassesOwn.never rfl (pi_range1 (by rfl) B.range (pa_cons (pv 2) pa_nil)) (pg_name (i := 7) sc_l_sea.nd rfl (.inl rfl)) (pss_cons (ps_expr (pe_bm PySem.F.plainAttrs_list PySem.F.slot_list_append PySem.F.type_list_append mt_append (pv 5) (pa_cons (pe_cc C_l_pick hr (pa_cons (pv 0) (pa_cons (pv 3) pa_nil))) pa_nil)))
      (pss_cons (ps_for PassesOwn.never rfl (pi_range1 (by rfl) B.range (pa_cons (pv 7) pa_nil)) (pg_name (i := 8) sc_l_sea.nd rfl (.inl rfl)) (pss_cons (ps_if (pt_cmpR op_gt (pe_cc C_l_pick hr (pa_cons (pv 0) (pa_cons pe_int pa_nil))) pe_int (nomark _)) (pss_cons (ps_expr (pe_bm PySem.F.plainAttrs_list PySem.F.slot_list_append PySem.F.type_list_append mt_append (pv 6) (pa_cons (pe_tup (pa_cons (pv 8) (pa_cons (pv 7) pa_nil))) pa_nil)))
      (pss_nil)) (pss_nil))
      (pss_nil)))
      (pss_nil))))
      (pss_cons (ps_set (i := 9) sc_l_sea.nd rfl (.inl rfl) (pe_lst (pa_cons pe_int pa_nil)))
      (pss_cons (ps_for PassesOwn.never rfl (pi_range1 (by rfl) B.range (pa_cons (pe_cc C_l_pick hr (pa_cons (pv 0) (pa_cons pe_int pa_nil))) pa_nil)) (pg_name (i := 10) sc_l_sea.nd rfl (.inl rfl)) (pss_cons (ps_expr (pe_bm PySem.F.plainAttrs_list PySem.F.slot_list_append PySem.F.type_list_append mt_append (pv 9) (pa_cons (pe_cc C_l_pick hr (pa_cons (pv 0) (pa_cons (pv 4) pa_nil))) pa_nil)))
      (pss_nil)))
      (pss_cons (ps_ret (pe_tup (pa_cons (pv 5) (pa_cons (pv 6) (pa_cons (pv 9) (pa_cons (pe_cc C_l_some hr (pa_cons (pv 0) (pa_cons (pv 2) (pa_cons pe_int pa_nil)))) pa_nil)))))) pss_nil)))))))), ?_⟩
    have c0 : Chg (F0) H0 H0 := Chg.refl H0
    unfold Mi.m_l_sea at hm
    refine q_asg ?_
    refine w_op ?_
    refine c_val val_c ?_
    refine w_call ?_
    refine w_args (va_cons (val_var rfl) (va_cons (val_var rfl) va_nil)) ?_
    obtain ⟨q1, hq1, hm⟩ := Mi.bnd hm
    refine ⟨v0, F0, d0, d1, q1, rfl, r0, hq1, fun H3 c2 r0 => ?_⟩
    have c0 := c0.join c2 (fun a h => .inl (h))
    refine w_I0 ?_
    obtain ⟨size4, hsize4, hm⟩ := Mi.letE hm
    refine g_nameE (congrArg V.int hsize4) (σ' := [some v0, some (.int d1), some (.int size4), none, none, none, none, none, none, none, none]) rfl ?_
    refine q_asg ?_
    refine w_op ?_
    refine w_lst ?_
    refine w_args (va_cons val_c (va_cons val_c (va_cons val_c va_nil))) ?_
    refine e_lst (K := K) (τ := yInt) (by exact Nat.le_of_ble_eq_true rfl) (.cons yInt_i (.cons yInt_i (.cons yInt_i .nil))) fun p5 H9 np8 c6 r7 => ?_
    have d10 : Dj F0 [p5] := Ty.nin r0 np8
    have n11 : ∀ a ∈ [p5], H0 a = none := one_fresh (c0.dom p5 np8)
    have r0 := Ty.ex r0 c6
    have c0 := c0.trans c6.none
    refine w_call ?_
    refine w_args (va_cons (val_var rfl) (va_cons val_c va_nil)) ?_
    obtain ⟨q12, hq12, hm⟩ := Mi.bnd hm
    refine ⟨v0, F0, q1.2, (3 : Int), q12, rfl, r0, hq12, fun H14 c13 r0 => ?_⟩
    have r7 := Ty.chg r7 c13 d10.symm
    have c0 := c0.join c13 (fun a h => .inl (h))
    obtain ⟨x15, hx15, hm⟩ := Mi.bnd hm
    refine w_ixL r7 hx15 fun u16 r17 => ?_
    obtain ⟨_, rfl⟩ := r17
    refine g_name (σ' := [some v0, some (.int d1), some (.int size4), some (.int x15), none, none, none, none, none, none, none]) rfl ?_
    refine q_asg ?_
    refine w_op ?_
    refine w_lst ?_
    refine w_args (va_cons val_c (va_cons val_c (va_cons val_c va_nil))) ?_
    refine e_lst (K := K) (τ := yInt) (by exact Nat.le_of_ble_eq_true rfl) (.cons yInt_i (.cons yInt_i (.cons yInt_i .nil))) fun p18 H22 np21 c19 r20 => ?_
    have d23 : Dj F0 [p18] := Ty.nin r0 np21
    have n24 : ∀ a ∈ [p18], H0 a = none := one_fresh (c0.dom p18 np21)
    have r0 := Ty.ex r0 c19
    have c0 := c0.trans c19.none
    refine w_call ?_
    refine w_args (va_cons (val_var rfl) (va_cons val_c va_nil)) ?_
    obtain ⟨q25, hq25, hm⟩ := Mi.bnd hm
    refine ⟨v0, F0, q12.2, (3 : Int), q25, rfl, r0, hq25, fun H27 c26 r0 => ?_⟩
    have r20 := Ty.chg r20 c26 d23.symm
    have c0 := c0.join c26 (fun a h => .inl (h))
    obtain ⟨x28, hx28, hm⟩ := Mi.bnd hm
    refine w_ixL r20 hx28 fun u29 r30 => ?_
    obtain ⟨_, rfl⟩ := r30
    refine g_name (σ' := [some v0, some (.int d1), some (.int size4), some (.int x15), some (.int x28), none, none, none, none, none, none]) rfl ?_
    refine q_asg ?_
    refine w_lst ?_
    refine w_args va_nil ?_
    refine e_lst (K := K) (τ := yInt) (by exact Nat.le_of_ble_eq_true rfl) .nil fun p31 H35 np34 c32 r33 => ?_
    have d36 : Dj F0 [p31] := Ty.nin r0 np34
    have n37 : ∀ a ∈ [p31], H0 a = none := one_fresh (c0.dom p31 np34)
    have r0 := Ty.ex r0 c32
    have c0 := c0.trans c32.none
    refine g_name (σ' := [some v0, some (.int d1), some (.int size4), some (.int x15), some (.int x28), some (.ref p31), none, none, none, none, none]) rfl ?_
    refine q_asg ?_
    refine w_lst ?_
    refine w_args va_nil ?_
    refine e_lst (K := K) (τ := (yTup (sCons yInt (sOne yInt)))) (by exact Nat.le_of_ble_eq_true rfl) .nil fun p38 H42 np41 c39 r40 => ?_
    have d43 : Dj F0 [p38] := Ty.nin r0 np41
    have d44 : Dj [p31] [p38] := Ty.nin r33 np41
    have n45 : ∀ a ∈ [p38], H0 a = none := one_fresh (c0.dom p38 np41)
    have r0 := Ty.ex r0 c39
    have r33 := Ty.ex r33 c39
    have c0 := c0.trans c39.none
    refine g_name (σ' := [some v0, some (.int d1), some (.int size4), some (.int x15), some (.int x28), some (.ref p31), some (.ref p38), none, none, none, none]) rfl ?_
    refine q_for ?_
    refine w_iRng1 ?_
    refine w_args (va_cons (val_var rfl) va_nil) ?_
    obtain ⟨g46, hg46, hm⟩ := Mi.bnd hm
    obtain ⟨e47, he47, hm⟩ := Mi.bnd hm
    refine l_rng1 hg46 (fun i σ' H' => ∃ (s48 : ((List Int) × (List Int) × (List (Int × Int)))) (y49 : Option V) (y50 : Option V), σ' = [some v0, some (.int d1), some (.int size4), some (.int x15), some (.int x28), some (.ref p31), some (.ref p38), y49, y50, none, none] ∧ Chg (F0) H0 H' ∧ (yLst yInt).rep K H' F0 v0 s48.1 ∧ (yLst yInt).rep K H' [p31] (.ref p31) s48.2.1 ∧ (yLst (yTup (sCons yInt (sOne yInt)))).rep K H' [p38] (.ref p38) s48.2.2 ∧ Mi.forN (Mi.m_l_sea_b1 x15) s48 (List.drop i g46) = some e47) ⟨(q25.2, ([] : (List Int)), ([] : (List (Int × Int)))), none, none, rfl, c0, r0, r33, r40, he47⟩ (fun i53 x52 σ' H' hx51 hp => ?_) (fun σ' H' hp => ?_)
    ·
      obtain ⟨s48, y49, y50, rfl, c0, r0, r33, r40, hle47⟩ := hp
      obtain ⟨_, hbe47, hle47⟩ := Mi.forN_go hle47 hx51
      unfold Mi.m_l_sea_b1 at hbe47
      refine g_name (σ' := [some v0, some (.int d1), some (.int size4), some (.int x15), some (.int x28), some (.ref p31), some (.ref p38), some (.int x52), y50, none, none]) rfl ?_
      refine q_drop (w_bm (c_val (val_var rfl) ⟨tyv_lst r33, ?_⟩))
      refine w_cons ?_
      refine w_call ?_
      refine w_args (va_cons (val_var rfl) (va_cons (val_var rfl) va_nil)) ?_
      obtain ⟨q54, hq54, hbe47⟩ := Mi.bnd hbe47
      refine ⟨v0, F0, s48.1, x15, q54, rfl, r0, hq54, fun H56 c55 r0 => ?_⟩
      have r33 := Ty.chg r33 c55 d36.symm
      have r40 := Ty.chg r40 c55 d43.symm
      have c0 := c0.join c55 (fun a h => .inl (h))
      refine w_nil ?_
      obtain ⟨x57, hx57, hbe47⟩ := Mi.bnd hbe47
      refine m_app r33 yInt_i hx57 fun H59 c58 r33 => ?_
      have r0 := Ty.chg r0 c58 d36
      have r40 := Ty.chg r40 c58 d44.symm
      have c0 := c0.join c58 (fun a h => .inr (n37 a h))
      refine q_for ?_
      refine w_iRng1 ?_
      refine w_args (va_cons (val_var rfl) va_nil) ?_
      obtain ⟨g60, hg60, hbe47⟩ := Mi.bnd hbe47
      obtain ⟨e61, he61, hbe47⟩ := Mi.bnd hbe47
      refine l_rng1 hg60 (fun i σ' H' => ∃ (s62 : ((List Int) × (List (Int × Int)))) (y63 : Option V), σ' = [some v0, some (.int d1), some (.int size4), some (.int x15), some (.int x28), some (.ref p31), some (.ref p38), some (.int x52), y63, none, none] ∧ Chg (F0) H0 H' ∧ (yLst yInt).rep K H' F0 v0 s62.1 ∧ (yLst yInt).rep K H' [p31] (.ref p31) x57 ∧ (yLst (yTup (sCons yInt (sOne yInt)))).rep K H' [p38] (.ref p38) s62.2 ∧ Mi.forN (Mi.m_l_sea_b2 x52) s62 (List.drop i g60) = some e61) ⟨(q54.2, s48.2.2), y50, rfl, c0, r0, r33, r40, he61⟩ (fun i66 x65 σ' H' hx64 hp => ?_) (fun σ' H' hp => ?_)
      ·
        obtain ⟨s62, y63, rfl, c0, r0, r33, r40, hle61⟩ := hp
        obtain ⟨_, hbe61, hle61⟩ := Mi.forN_go hle61 hx64
        unfold Mi.m_l_sea_b2 at hbe61
        refine g_name (σ' := [some v0, some (.int d1), some (.int size4), some (.int x15), some (.int x28), some (.ref p31), some (.ref p38), some (.int x52), some (.int x65), none, none]) rfl ?_
        obtain ⟨s67, hs67, hbe61⟩ := Mi.bnd hbe61
        refine s_join (R := fun σ' H' => σ' = [some v0, some (.int d1), some (.int size4), some (.int x15), some (.int x28), some (.ref p31), some (.ref p38), some (.int x52), some (.int x65), none, none] ∧ Chg (F0) H0 H' ∧ (yLst yInt).rep K H' F0 v0 s67.1 ∧ (yLst yInt).rep K H' [p31] (.ref p31) x57 ∧ (yLst (yTup (sCons yInt (sOne yInt)))).rep K H' [p38] (.ref p38) s67.2) (fun nx kx => ?_) (fun σ' H' hj => ?_)
        ·
          refine w_ifS ?_
          refine w_test ?_
          refine w_op ?_
          refine w_call ?_
          refine w_args (va_cons (val_var rfl) (va_cons val_c va_nil)) ?_
          obtain ⟨q68, hq68, hs67⟩ := Mi.bnd hs67
          refine ⟨v0, F0, s62.1, (4 : Int), q68, rfl, r0, hq68, fun H70 c69 r0 => ?_⟩
          have r33 := Ty.chg r33 c69 d36.symm
          have r40 := Ty.chg r40 c69 d43.symm
          have c0 := c0.join c69 (fun a h => .inl (h))
          refine c_val val_c ?_
          refine w_I0 ?_
          refine ⟨_, rfl, ?_⟩
          refine c_if (fun hb => ?_) (fun hb => ?_)
          ·
            replace hs67 := Mi.ifT hb hs67
            refine q_drop (w_bm (c_val (val_var rfl) ⟨tyv_lst r40, ?_⟩))
            refine w_cons ?_
            refine w_tup ?_
            refine w_args (va_cons (val_var rfl) (va_cons (val_var rfl) va_nil)) ?_
            refine e_tup (K := K) (ty := (sCons yInt (sOne yInt))) (F := []) (d := (x65, x52)) (by exact Nat.le_of_ble_eq_true rfl) ⟨_, _, _, _, rfl, rfl, yInt_i, ⟨_, rfl, yInt_i⟩⟩ fun p71 H75 np74 c72 r73 => ?_
            have r0 := Ty.ex r0 c72
            have r33 := Ty.ex r33 c72
            have r40 := Ty.ex r40 c72
            have c0 := c0.trans c72.none
            refine w_nil ?_
            obtain ⟨x76, hx76, hs67⟩ := Mi.bnd hs67
            refine m_app r40 r73 hx76 fun H78 c77 r40 => ?_
            have r0 := Ty.chg r0 c77 d43
            have r33 := Ty.chg r33 c77 d44
            have c0 := c0.join c77 (fun a h => .inr (n45 a h))
            refine w_nextJ ?_
            obtain rfl := Option.some.inj hs67
            exact kx _ _ ⟨rfl, c0, r0, r33, r40⟩
          ·
            replace hs67 := Mi.ifF hb hs67
            refine w_nextJ ?_
            obtain rfl := Option.some.inj hs67
            exact kx _ _ ⟨rfl, c0, r0, r33, r40⟩
        obtain ⟨rfl, c0, r0, r33, r40⟩ := hj
        refine w_nextJ ?_
        obtain rfl := Option.some.inj hbe61
        exact ⟨_, (some (.int x65)), rfl, c0, r0, r33, r40, hle61⟩
      obtain ⟨s62, y63, rfl, c0, r0, r33, r40, hle61⟩ := hp
      obtain rfl := Mi.forN_end hle61
      refine w_nextJ ?_
      obtain rfl := Option.some.inj hbe47
      exact ⟨_, (some (.int x52)), y63, rfl, c0, r0, r33, r40, hle47⟩
    obtain ⟨s48, y49, y50, rfl, c0, r0, r33, r40, hle47⟩ := hp
    obtain rfl := Mi.forN_end hle47
    refine q_asg ?_
    refine w_lst ?_
    refine w_args (va_cons val_c va_nil) ?_
    refine e_lst (K := K) (τ := yInt) (by exact Nat.le_of_ble_eq_true rfl) (.cons yInt_i .nil) fun p79 H83 np82 c80 r81 => ?_
    have d84 : Dj F0 [p79] := Ty.nin r0 np82
    have d85 : Dj [p31] [p79] := Ty.nin r33 np82
    have d86 : Dj [p38] [p79] := Ty.nin r40 np82
    have n87 : ∀ a ∈ [p79], H0 a = none := one_fresh (c0.dom p79 np82)
    have r0 := Ty.ex r0 c80
    have r33 := Ty.ex r33 c80
    have r40 := Ty.ex r40 c80
    have c0 := c0.trans c80.none
    refine g_name (σ' := [some v0, some (.int d1), some (.int size4), some (.int x15), some (.int x28), some (.ref p31), some (.ref p38), y49, y50, some (.ref p79), none]) rfl ?_
    refine q_for ?_
    refine w_iRng1 ?_
    refine w_cons ?_
    refine w_call ?_
    refine w_args (va_cons (val_var rfl) (va_cons val_c va_nil)) ?_
    obtain ⟨q88, hq88, hm⟩ := Mi.bnd hm
    refine ⟨v0, F0, s48.1, (3 : Int), q88, rfl, r0, hq88, fun H90 c89 r0 => ?_⟩
    have r33 := Ty.chg r33 c89 d36.symm
    have r40 := Ty.chg r40 c89 d43.symm
    have r81 := Ty.chg r81 c89 d84.symm
    have c0 := c0.join c89 (fun a h => .inl (h))
    refine w_nil ?_
    obtain ⟨g91, hg91, hm⟩ := Mi.bnd hm
    obtain ⟨e92, he92, hm⟩ := Mi.bnd hm
    refine l_rng1 hg91 (fun i σ' H' => ∃ (s93 : ((List Int) × (List Int))) (y94 : Option V), σ' = [some v0, some (.int d1), some (.int size4), some (.int x15), some (.int x28), some (.ref p31), some (.ref p38), y49, y50, some (.ref p79), y94] ∧ Chg (F0) H0 H' ∧ (yLst yInt).rep K H' F0 v0 s93.1 ∧ (yLst yInt).rep K H' [p31] (.ref p31) s48.2.1 ∧ (yLst (yTup (sCons yInt (sOne yInt)))).rep K H' [p38] (.ref p38) s48.2.2 ∧ (yLst yInt).rep K H' [p79] (.ref p79) s93.2 ∧ Mi.forN (Mi.m_l_sea_b3 x28) s93 (List.drop i g91) = some e92) ⟨(q88.2, [(0 : Int)]), none, rfl, c0, r0, r33, r40, r81, he92⟩ (fun i97 x96 σ' H' hx95 hp => ?_) (fun σ' H' hp => ?_)
    ·
      obtain ⟨s93, y94, rfl, c0, r0, r33, r40, r81, hle92⟩ := hp
      obtain ⟨_, hbe92, hle92⟩ := Mi.forN_go hle92 hx95
      unfold Mi.m_l_sea_b3 at hbe92
      refine g_name (σ' := [some v0, some (.int d1), some (.int size4), some (.int x15), some (.int x28), some (.ref p31), some (.ref p38), y49, y50, some (.ref p79), some (.int x96)]) rfl ?_
      refine q_drop (w_bm (c_val (val_var rfl) ⟨tyv_lst r81, ?_⟩))
      refine w_cons ?_
      refine w_call ?_
      refine w_args (va_cons (val_var rfl) (va_cons (val_var rfl) va_nil)) ?_
      obtain ⟨q98, hq98, hbe92⟩ := Mi.bnd hbe92
      refine ⟨v0, F0, s93.1, x28, q98, rfl, r0, hq98, fun H100 c99 r0 => ?_⟩
      have r33 := Ty.chg r33 c99 d36.symm
      have r40 := Ty.chg r40 c99 d43.symm
      have r81 := Ty.chg r81 c99 d84.symm
      have c0 := c0.join c99 (fun a h => .inl (h))
      refine w_nil ?_
      obtain ⟨x101, hx101, hbe92⟩ := Mi.bnd hbe92
      refine m_app r81 yInt_i hx101 fun H103 c102 r81 => ?_
      have r0 := Ty.chg r0 c102 d84
      have r33 := Ty.chg r33 c102 d85
      have r40 := Ty.chg r40 c102 d86
      have c0 := c0.join c102 (fun a h => .inr (n87 a h))
      refine w_nextJ ?_
      obtain rfl := Option.some.inj hbe92
      exact ⟨_, (some (.int x96)), rfl, c0, r0, r33, r40, r81, hle92⟩
    obtain ⟨s93, y94, rfl, c0, r0, r33, r40, r81, hle92⟩ := hp
    obtain rfl := Mi.forN_end hle92
    refine q_ret ?_
    refine w_tup ?_
    refine w_cons ?_
    refine c_val (val_var rfl) ?_
    refine w_cons ?_
    refine c_val (val_var rfl) ?_
    refine w_cons ?_
    refine c_val (val_var rfl) ?_
    refine w_cons ?_
    refine w_call ?_
    refine w_args (va_cons (val_var rfl) (va_cons (val_var rfl) (va_cons val_c va_nil))) ?_
    obtain ⟨q104, hq104, hm⟩ := Mi.bnd hm
    have r0_old := r0
    refine ⟨v0, F0, s93.1, size4, (4 : Int), q104, rfl, r0, hq104, fun v107 H106 F109 c105 r108 fr110 r0 => ?_⟩
    have d111 : Dj F0 F109 := Ty.fresh r0_old fr110
    have d112 : Dj [p31] F109 := Ty.fresh r33 fr110
    have d113 : Dj [p38] F109 := Ty.fresh r40 fr110
    have d114 : Dj [p79] F109 := Ty.fresh r81 fr110
    have n115 : ∀ a ∈ F109, H0 a = none := fun a h => c0.dom a (fr110 a h)
    have r33 := Ty.chg r33 c105 d36.symm
    have r40 := Ty.chg r40 c105 d43.symm
    have r81 := Ty.chg r81 c105 d84.symm
    have c0 := c0.join c105 (fun a h => .inl (h))
    refine w_nil ?_
    refine e_tup (K := K) (ty := (sCons (yLst yInt) (sCons (yLst (yTup (sCons yInt (sOne yInt)))) (sCons (yLst yInt) (sOne (yLst yInt)))))) (F := ([p31] ++ ([p38] ++ ([p79] ++ F109)))) (d := (s48.2.1, s48.2.2, s93.2, q104.1)) (by exact Nat.le_of_ble_eq_true rfl) ⟨_, _, _, _, rfl, rfl, r33, ⟨_, _, _, _, rfl, rfl, r40, ⟨_, _, _, _, rfl, rfl, r81, ⟨_, rfl, r108⟩⟩⟩⟩ fun p116 H120 np119 c117 r118 => ?_
    have r0 := Ty.ex r0 c117
    have r33 := Ty.ex r33 c117
    have r40 := Ty.ex r40 c117
    have r81 := Ty.ex r81 c117
    have r108 := Ty.ex r108 c117
    have c0 := c0.trans c117.none
    have d121 : Dj ([p31] ++ ([p38] ++ ([p79] ++ F109))) F0 := (Dj.app (d36.symm) ((Dj.app (d43.symm) ((Dj.app (d84.symm) (d111.symm))))))
    obtain rfl := Option.some.inj hm
    exact hQ _ _ _ c0 r118 (app_fresh n37 (app_fresh n45 (app_fresh n87 n115))) r0
abbrev s_l_chart : Stmt := topS 31
abbrev N_l_chart : List Str := ["_law_sea_here", "_law_parts", "_law_chart_here", "_law_part"]
theorem sc_l_chart : FnScope ["_law_sea_here", "_law_parts", "_law_chart_here", "_law_part"] ["_law_sea_here"] (defScope s_l_chart) := ⟨rfl, rfl, rfl, by decide +kernel, rfl, by decide +kernel, by decide +kernel⟩
def sp_l_chart (K : PySem.W.Frag) (C_Chart : Addr) : Sp := fun vs H Q _ => ∃ (v0 : V) (F0 : List Addr) (d0 : ((List Int) × (List (Int × Int)) × (List Int) × (List Int))) (r : (Int × (List Int) × (List (Int × Int)) × (List Int) × (List Int) × (List (List Int)))), vs = [v0] ∧ (yTup (sCons (yLst yInt) (sCons (yLst (yTup (sCons yInt (sOne yInt)))) (sCons (yLst yInt) (sOne (yLst yInt)))))).rep K H F0 v0 d0 ∧ Mi.m_l_chart d0 = some r ∧ ∀ v H', Chg ([]) H H' → (yObj C_Chart nm_Chart ty_Chart).rep K H' [] v r → Q v H'
theorem ok_l_chart (B : Bi mg) (CN : Cs K mg) (D : Dfn K mg "_law_chart" s_l_chart) {C_Chart : Addr} (T_Chart : Tx K mg C_Chart "Chart" nm_Chart) (I_Chart : CalI P w K mg C_Chart "Chart.__init__" s_Chart_init (kw_Chart K) ["self", "depths", "lanes", "tide", "harbours"] 3 (sp_Chart_init K C_Chart)) : Cal P w K mg "_law_chart" ["_law_sea_here"] 5 (sp_l_chart K C_Chart) := by
  obtain ⟨f, fd, F, g⟩ := D.ex
  refine ⟨f, fd, g, F.kp, bindsF F (fun _ _ _ _ _ _ us hl => match us, hl with | [_], _ => rfl), fun base => F.ok sc_l_chart (fun vs H Q E h => ?_) (fun cdv A outer s H0 vs Q E hr h => ?_)⟩
  · obtain ⟨v0, F0, d0, r, rfl, r0, hm, hQ⟩ := h; rfl
  ·
    obtain ⟨v0, F0, d0, r, rfl, r0, hm, hQ⟩ := h
    obtain ⟨fI_Chart, fdI_Chart, MI_Chart, FI_Chart, OI_Chart⟩ := I_Chart.ex
    obtain ⟨mv_kb_Chart_2_tide_harbours, kb_Chart_2_tide_harbours⟩ := FunD.kbinds0 (ps := ["self", "depths", "lanes", "tide", "harbours"]) FI_Chart 3 ["tide", "harbours"] [] (fun us mv ws => permG [0, 1, 2, 3, 4] us mv ws) (by intro z; cases z) (fun q hq => nomatch hq) (fun r1 r2 r3 => permG_rel _ r1 r2 r3) (fun _ _ _ _ _ _ us mv ws h1 h2 h3 => match us, mv, ws, h1, h2, h3 with | [_, _, _], [], [_, _], _, _, _ => rfl)
    refine ⟨_, pss_cons (ps_set (i := 1) sc_l_chart.nd rfl (.inl rfl) (pe_lst (pa_cons (pe_callTy (cl_list (K := K)) (by rfl) B.list (by decide +kernel) (pa_cons (pe_ix (ix_t (K := K)) (pv 0) pe_int (fun _ _ => rfl)) pa_nil)) (pa_cons (pe_callTy (cl_list (K := K)) (by rfl) B.list (by decide +kernel) (pa_cons (pe_ix (ix_t (K := K)) (pv 0) pe_int (fun _ _ => rfl)) pa_nil)) (pa_cons (pe_callTy (cl_list (K := K)) (by rfl) B.list (by decide +kernel) (pa_cons (pe_ix (ix_t (K := K)) (pv 0) pe_int (fun _ _ => rfl)) pa_nil)) (pa_cons (pe_callTy (cl_list (K := K)) (by rfl) B.list (by decide +kernel) (pa_cons (pe_ix (ix_t (K := K)) (pv 0) pe_int (fun _ _ => rfl)) pa_nil)) pa_nil))))))
      (pss_cons (ps_set (i := 2) sc_l_chart.nd rfl (.inl rfl) (pe_makeK MI_Chart (OI_Chart base) (hr.mono (by decide)) (by rfl) T_Chart.mgC kb_Chart_2_tide_harbours pass0 (pa_cons (pe_ix (ix_l (K := K)) (pv 1) pe_int (fun _ _ => rfl)) (pa_cons (pe_ix (ix_l (K := K)) (pv 1) pe_int (fun _ _ => rfl)) pa_nil)) (pk_cons (pe_ix (ix_l (K := K)) (pv 1) pe_int (fun _ _ => rfl)) (pk_cons (pe_ix (ix_l (K := K)) (pv 1) pe_int (fun _ _ => rfl)) pk_nil))))
      (pss_cons (ps_for PassesOwn.never rfl (pi_list (pv 1)) (pg_name (i := 3) sc_l_chart.nd rfl (.inl rfl)) (pss_cons (ps_expr (pe_bm0 PySem.F.plainAttrs_list PySem.F.slot_list_clear PySem.F.type_list_clear mt_clear (pv 3))) pss_nil))
      (pss_cons (ps_ret (pv 2)) pss_nil))), ?_⟩
    have c0 : Chg ([] : List Addr) H0 H0 := Chg.refl H0
    unfold Mi.m_l_chart at hm
    refine q_asg ?_
    refine w_lst ?_
    refine w_cons ?_
    refine w_cb ?_
    obtain ⟨u1, F2, r3, su4, kx5, ku6⟩ := itm_tup (n := 0) at0 r0
    refine w_args (va_cons (ku6 (val_var rfl) val_c) va_nil) ?_
    refine w_listL r3 fun p7 H11 np10 c8 r9 => ?_
    have d12 : Dj F0 [p7] := Ty.nin r0 np10
    have d13 : Dj F2 [p7] := Ty.nin r3 np10
    have n14 : ∀ a ∈ [p7], H0 a = none := one_fresh (c0.dom p7 np10)
    have r0 := Ty.ex r0 c8
    have r3 := Ty.ex r3 c8
    have c0 := c0.trans c8.none
    refine w_cons ?_
    refine w_cb ?_
    obtain ⟨u15, F16, r17, su18, kx19, ku20⟩ := itm_tup (n := 1) (atS at0) r0
    have d21 : Dj F16 [p7] := Dj.sub (d12) su18
    refine w_args (va_cons (ku20 (val_var rfl) val_c) va_nil) ?_
    refine w_listL r17 fun p22 H26 np25 c23 r24 => ?_
    have d27 : Dj F0 [p22] := Ty.nin r0 np25
    have d28 : Dj [p7] [p22] := Ty.nin r9 np25
    have d29 : Dj F16 [p22] := Ty.nin r17 np25
    have n30 : ∀ a ∈ [p22], H0 a = none := one_fresh (c0.dom p22 np25)
    have r0 := Ty.ex r0 c23
    have r9 := Ty.ex r9 c23
    have r17 := Ty.ex r17 c23
    have c0 := c0.trans c23.none
    refine w_cons ?_
    refine w_cb ?_
    obtain ⟨u31, F32, r33, su34, kx35, ku36⟩ := itm_tup (n := 2) (atS (atS at0)) r0
    have d37 : Dj F32 [p7] := Dj.sub (d12) su34
    have d38 : Dj F32 [p22] := Dj.sub (d27) su34
    refine w_args (va_cons (ku36 (val_var rfl) val_c) va_nil) ?_
    refine w_listL r33 fun p39 H43 np42 c40 r41 => ?_
    have d44 : Dj F0 [p39] := Ty.nin r0 np42
    have d45 : Dj [p7] [p39] := Ty.nin r9 np42
    have d46 : Dj [p22] [p39] := Ty.nin r24 np42
    have d47 : Dj F32 [p39] := Ty.nin r33 np42
    have n48 : ∀ a ∈ [p39], H0 a = none := one_fresh (c0.dom p39 np42)
    have r0 := Ty.ex r0 c40
    have r9 := Ty.ex r9 c40
    have r24 := Ty.ex r24 c40
    have r33 := Ty.ex r33 c40
    have c0 := c0.trans c40.none
    refine w_cons ?_
    refine w_cb ?_
    obtain ⟨u49, F50, r51, su52, kx53, ku54⟩ := itm_tup (n := 3) (atS (atS (atS at1))) r0
    have d55 : Dj F50 [p7] := Dj.sub (d12) su52
    have d56 : Dj F50 [p22] := Dj.sub (d27) su52
    have d57 : Dj F50 [p39] := Dj.sub (d44) su52
    refine w_args (va_cons (ku54 (val_var rfl) val_c) va_nil) ?_
    refine w_listL r51 fun p58 H62 np61 c59 r60 => ?_
    have d63 : Dj F0 [p58] := Ty.nin r0 np61
    have d64 : Dj [p7] [p58] := Ty.nin r9 np61
    have d65 : Dj [p22] [p58] := Ty.nin r24 np61
    have d66 : Dj [p39] [p58] := Ty.nin r41 np61
    have d67 : Dj F50 [p58] := Ty.nin r51 np61
    have n68 : ∀ a ∈ [p58], H0 a = none := one_fresh (c0.dom p58 np61)
    have r0 := Ty.ex r0 c59
    have r9 := Ty.ex r9 c59
    have r24 := Ty.ex r24 c59
    have r41 := Ty.ex r41 c59
    have r51 := Ty.ex r51 c59
    have c0 := c0.trans c59.none
    refine w_nil ?_
    refine e_hl (K := K) (ts := (sCons (yLst yInt) (sCons (yLst (yTup (sCons yInt (sOne yInt)))) (sCons (yLst yInt) (sOne (yLst yInt)))))) (G := ([p7] ++ ([p22] ++ ([p39] ++ [p58])))) (d := (d0.1, d0.2.1, d0.2.2.1, d0.2.2.2)) (by exact Nat.le_of_ble_eq_true rfl) ⟨_, _, _, _, rfl, rfl, r9, ⟨_, _, _, _, rfl, rfl, r24, ⟨_, _, _, _, rfl, rfl, r41, ⟨_, rfl, r60⟩⟩⟩⟩ fun p69 H73 np72 c70 r71 => ?_
    have d74 : Dj F0 (p69 :: ([p7] ++ ([p22] ++ ([p39] ++ [p58])))) := Dj.consR (Ty.nin r0 np72) (Dj.symm (Dj.app (Dj.symm (d12)) (Dj.symm (Dj.symm (Dj.app (Dj.symm (d27)) (Dj.symm (Dj.symm (Dj.app (Dj.symm (d44)) (Dj.symm (d63))))))))))
    have n75 : ∀ a ∈ (p69 :: ([p7] ++ ([p22] ++ ([p39] ++ [p58])))), H0 a = none := fresh_cons (c0.dom p69 np72) (app_fresh n14 (app_fresh n30 (app_fresh n48 n68)))
    have r0 := Ty.ex r0 c70
    have r9 := Ty.ex r9 c70
    have r24 := Ty.ex r24 c70
    have r41 := Ty.ex r41 c70
    have r60 := Ty.ex r60 c70
    have c0 := c0.trans c70.none
    refine g_name (σ' := [some v0, some (.ref p69), none, none]) rfl ?_
    refine q_asg ?_
    refine w_makeK ?_
    obtain ⟨u76, F77, r78, su79, kx80, ku81⟩ := itm_hl (n := 0) at0 r71
    have d82 : Dj F77 F0 := Dj.sub (d74.symm) su79
    have n83 : ∀ a ∈ F77, H0 a = none := fun a h => n75 a (su79 a h)
    obtain ⟨u84, F85, r86, su87, kx88, ku89⟩ := itm_hl (n := 1) (atS at0) r71
    have d90 : Dj F85 F0 := Dj.sub (d74.symm) su87
    have n91 : ∀ a ∈ F85, H0 a = none := fun a h => n75 a (su87 a h)
    refine w_args (va_cons (ku81 (val_var rfl) val_c) (va_cons (ku89 (val_var rfl) val_c) va_nil)) ?_
    obtain ⟨u92, F93, r94, su95, kx96, ku97⟩ := itm_hl (n := 2) (atS (atS at0)) r71
    have d98 : Dj F93 F0 := Dj.sub (d74.symm) su95
    have n99 : ∀ a ∈ F93, H0 a = none := fun a h => n75 a (su95 a h)
    obtain ⟨u100, F101, r102, su103, kx104, ku105⟩ := itm_hl (n := 3) (atS (atS (atS at1))) r71
    have d106 : Dj F101 F0 := Dj.sub (d74.symm) su103
    have n107 : ∀ a ∈ F101, H0 a = none := fun a h => n75 a (su103 a h)
    refine w_args (va_cons (ku97 (val_var rfl) val_c) (va_cons (ku105 (val_var rfl) val_c) va_nil)) ?_
    refine ⟨rfl, rfl, ?_⟩
    intro p108 dx109 nx110 ndx111 nex112
    have d113 : Dj F0 [p108] := Ty.nin r0 nx110
    have d114 : Dj (p69 :: ([p7] ++ ([p22] ++ ([p39] ++ [p58])))) [p108] := Ty.nin r71 nx110
    have d115 : Dj F77 [p108] := Ty.nin r78 nx110
    have d116 : Dj F85 [p108] := Ty.nin r86 nx110
    have d117 : Dj F93 [p108] := Ty.nin r94 nx110
    have d118 : Dj F101 [p108] := Ty.nin r102 nx110
    have n119 : ∀ a ∈ [p108], H0 a = none := one_fresh (c0.dom p108 nx110)
    obtain ⟨c120, r121⟩ := make_new (K := K) (C := C_Chart) nx110 ndx111 nex112
    have r0 := Ty.ex r0 c120
    have r71 := Ty.ex r71 c120
    have r78 := Ty.ex r78 c120
    have r86 := Ty.ex r86 c120
    have r94 := Ty.ex r94 c120
    have r102 := Ty.ex r102 c120
    have c0 := c0.trans c120.none
    obtain ⟨q122, hq122, hm⟩ := Mi.bnd hm
    refine ⟨p108, dx109, u76, F77, (d0.1, d0.2.1, d0.2.2.1, d0.2.2.2).1, u84, F85, (d0.1, d0.2.1, d0.2.2.1, d0.2.2.2).2.1, u92, F93, (d0.1, d0.2.1, d0.2.2.1, d0.2.2.2).2.2.1, u100, F101, (d0.1, d0.2.1, d0.2.2.1, d0.2.2.2).2.2.2, q122, rfl, r121, r78, r86, r94, r102, d115.symm, d116.symm, d117.symm, d118.symm, hq122, fun H124 c123 r125 => ⟨rfl, ?_⟩⟩
    have r0 := Ty.chg r0 c123 d113
    have r71 := Ty.chg r71 c123 d114
    have c0 := c0.join c123 (fun a h => .inr (n119 a h))
    refine g_name (σ' := [some v0, some (.ref p69), some (.ref p108), none]) rfl ?_
    refine q_for ?_
    refine w_iList ?_
    refine c_val (val_var rfl) ?_
    refine l_clear (s := 3) (als_cons (als_cons (als_cons als_one))) r71 (by exact Nat.le_of_ble_eq_true rfl) (fun D σ H p xs hs hp k => q_drop (w_bm0 (c_val (val_var hs) ⟨.inl ⟨rfl, _, .inl (.inl hp)⟩, ⟨p, xs, rfl, rfl, hp, w_next k⟩⟩))) (fun σ' H127 c126 hσ => ?_)
    obtain ⟨y128, rfl⟩ := hσ
    have r0 := Ty.chg r0 c126 d74
    have r125 := Ty.fz r125 c126
    have c0 := c0.join c126 (fun a h => .inr (n75 a h))
    refine st_eq (σ' := [some v0, some (.ref p69), some (.ref p108), y128]) rfl ?_
    refine q_ret ?_
    refine c_val (val_var rfl) ?_
    obtain rfl := Option.some.inj hm
    exact hQ _ _ c0 r125 
abbrev s_l_touches : Stmt := topS 32
abbrev N_l_touches : List Str := ["_law_sea_here", "_law_here", "_law_place", "_law_pair"]
theorem sc_l_touches : FnScope ["_law_sea_here", "_law_here", "_law_place", "_law_pair"] ["_law_sea_here", "_law_here", "_law_place"] (defScope s_l_touches) := ⟨rfl, rfl, rfl, by decide +kernel, rfl, by decide +kernel, by decide +kernel⟩
def sp_l_touches (K : PySem.W.Frag) : Sp := fun vs H Q _ => ∃ (v0 : V) (F0 : List Addr) (d0 : ((List Int) × (List (Int × Int)) × (List Int) × (List Int))) (v1 : V) (F1 : List Addr) (d1 : (List Int)) (d2 : Int) (r : Bool), vs = [v0, v1, (.int d2)] ∧ (yTup (sCons (yLst yInt) (sCons (yLst (yTup (sCons yInt (sOne yInt)))) (sCons (yLst yInt) (sOne (yLst yInt)))))).rep K H F0 v0 d0 ∧ (yLst yInt).rep K H F1 v1 d1 ∧ Mi.m_l_touches d0 d1 d2 = some r ∧ ∀ H', Chg ([]) H H' → Q (.bl r) H'
theorem ok_l_touches (B : Bi mg) (CN : Cs K mg) (D : Dfn K mg "_law_touches" s_l_touches)  : Cal P w K mg "_law_touches" ["_law_sea_here", "_law_here", "_law_place"] 1 (sp_l_touches K) := by
  obtain ⟨f, fd, F, g⟩ := D.ex
  refine ⟨f, fd, g, F.kp, bindsF F (fun _ _ _ _ _ _ us hl => match us, hl with | [_, _, _], _ => rfl), fun base => F.ok sc_l_touches (fun vs H Q E h => ?_) (fun cdv A outer s H0 vs Q E hr h => ?_)⟩
  · obtain ⟨v0, F0, d0, v1, F1, d1, d2, r, rfl, r0, r1, hm, hQ⟩ := h; rfl
  ·
    obtain ⟨v0, F0, d0, v1, F1, d1, d2, r, rfl, r0, r1, hm, hQ⟩ := h
    refine ⟨_, pss_cons (ps_for PassesOwn.never rfl (pi_list (pe_ix (ix_t (K := K)) (pv 0) pe_int (fun _ _ => rfl))) (pg_name (i := 3) sc_l_touches.nd rfl (.inl rfl)) (pss_cons (ps_if (PW.pt (pw_and (pt_cmpR op_eq (pe_ix (ix_t (K := K)) (pv 3) pe_int (fun _ _ => rfl)) (pv 2) (nomark _)) (pw_and1 (pt_cmpR (op_in_q (K := K)) (pe_ix (ix_t (K := K)) (pv 3) pe_int (fun _ _ => rfl)) (pv 1) (by rfl))))) (pss_cons (ps_ret pe_bl) pss_nil) (pss_nil))
      (pss_cons (ps_if (PW.pt (pw_and (pt_cmpR op_eq (pe_ix (ix_t (K := K)) (pv 3) pe_int (fun _ _ => rfl)) (pv 2) (nomark _)) (pw_and1 (pt_cmpR (op_in_q (K := K)) (pe_ix (ix_t (K := K)) (pv 3) pe_int (fun _ _ => rfl)) (pv 1) (by rfl))))) (pss_cons (ps_ret pe_bl) pss_nil) (pss_nil))
      (pss_nil))))
      (pss_cons (ps_ret pe_bl) pss_nil), ?_⟩
    have c0 : Chg ([] : List Addr) H0 H0 := Chg.refl H0
    unfold Mi.m_l_touches at hm
    refine q_for ?_
    refine w_iList ?_
    obtain ⟨u1, F2, r3, su4, kx5, ku6⟩ := itm_tup (n := 1) (atS at0) r0
    refine c_val (ku6 (val_var rfl) val_c) ?_
    obtain ⟨e7, he7, hm⟩ := Mi.bnd hm
    refine l_lst r3 (fun i σ' H' => ∃ (s8 : Unit) (y9 : Option V), σ' = [some v0, some v1, some (.int d2), y9] ∧ Chg ([] : List Addr) H0 H' ∧ (yTup (sCons (yLst yInt) (sCons (yLst (yTup (sCons yInt (sOne yInt)))) (sCons (yLst yInt) (sOne (yLst yInt)))))).rep K H' F0 v0 d0 ∧ (yLst yInt).rep K H' F1 v1 d1 ∧ (yLst (yTup (sCons yInt (sOne yInt)))).rep K H' F2 u1 d0.2.1 ∧ Mi.forR (Mi.m_l_touches_b1 d1 d2) s8 (List.drop i d0.2.1) = some e7) ⟨(), none, rfl, c0, r0, r1, r3, he7⟩ (fun i σ' H' hp => by obtain ⟨s8, y9, rfl, c0, r0, r1, r3, _⟩ := hp; exact r3) (fun i12 x11 u13 σ' H' hx10 r14 hp => ?_) (fun σ' H' hp => ?_)
    ·
      obtain ⟨s8, y9, rfl, c0, r0, r1, r3, hle7⟩ := hp
      obtain ⟨o15, hbe7, hore7⟩ := Mi.forR_go hle7 hx10
      unfold Mi.m_l_touches_b1 at hbe7
      refine g_name (σ' := [some v0, some v1, some (.int d2), some u13]) rfl ?_
      obtain ⟨u16, F17, r18, su19, kx20, ku21⟩ := itm_tup (n := 0) at0 r14
      obtain ⟨rfl, rfl⟩ := r18
      obtain ⟨u23, F24, r25, su26, kx27, ku28⟩ := itm_tup (n := 1) (atS at1) r14
      obtain ⟨rfl, rfl⟩ := r25
      refine q_if (ans_andB (ans_t (val_eqI (ku21 (val_var rfl) val_c) (val_var rfl))) (fun _ => (ans_t (val_inL r1 (ku28 (val_var rfl) val_c) (val_var rfl))))) (fun hb => ?_) (fun hb => ?_)
      ·
        replace hbe7 := Mi.ifT hb hbe7
        refine q_ret ?_
        refine c_val val_c ?_
        obtain rfl := Option.some.inj hbe7
        obtain rfl := Mi.or_inl hore7
        obtain rfl := Option.some.inj (Mi.orR_inl hm)
        exact hQ _ c0 
      replace hbe7 := Mi.ifF hb hbe7
      refine w_fall ?_
      obtain ⟨u29, F30, r31, su32, kx33, ku34⟩ := itm_tup (n := 1) (atS at1) r14
      obtain ⟨rfl, rfl⟩ := r31
      obtain ⟨u36, F37, r38, su39, kx40, ku41⟩ := itm_tup (n := 0) at0 r14
      obtain ⟨rfl, rfl⟩ := r38
      refine q_if (ans_andB (ans_t (val_eqI (ku34 (val_var rfl) val_c) (val_var rfl))) (fun _ => (ans_t (val_inL r1 (ku41 (val_var rfl) val_c) (val_var rfl))))) (fun hb => ?_) (fun hb => ?_)
      ·
        replace hbe7 := Mi.ifT hb hbe7
        refine q_ret ?_
        refine c_val val_c ?_
        obtain rfl := Option.some.inj hbe7
        obtain rfl := Mi.or_inl hore7
        obtain rfl := Option.some.inj (Mi.orR_inl hm)
        exact hQ _ c0 
      replace hbe7 := Mi.ifF hb hbe7
      refine w_fall ?_
      refine w_nextJ ?_
      obtain rfl := Option.some.inj hbe7
      replace hore7 := Mi.or_inr hore7
      exact ⟨_, (some u13), rfl, c0, r0, r1, r3, hore7⟩
    obtain ⟨s8, y9, rfl, c0, r0, r1, r3, hle7⟩ := hp
    obtain rfl := Mi.forR_end hle7
    replace hm := Mi.orR_inr hm
    refine q_ret ?_
    refine c_val val_c ?_
    obtain rfl := Option.some.inj hm
    exact hQ _ c0 
abbrev s_l_wide : Stmt := topS 33
abbrev N_l_wide : List Str := ["_law_hand_here", "_law_most"]
theorem sc_l_wide : FnScope ["_law_hand_here", "_law_most"] ["_law_hand_here"] (defScope s_l_wide) := ⟨rfl, rfl, rfl, by decide +kernel, rfl, by decide +kernel, by decide +kernel⟩
def sp_l_wide (K : PySem.W.Frag) : Sp := fun vs H Q _ => ∃ (v0 : V) (F0 : List Addr) (d0 : (List Int)) (r : (((List Int) × (List (Int × Int)) × (List Int) × (List Int)) × (List Int))), vs = [v0] ∧ (yLst yInt).rep K H F0 v0 d0 ∧ Mi.m_l_wide d0 = some r ∧ ∀ v H' F, Chg (F0) H H' → (yTup (sCons (yLst yInt) (sCons (yLst (yTup (sCons yInt (sOne yInt)))) (sCons (yLst yInt) (sOne (yLst yInt)))))).rep K H' F v r.1 → (∀ a ∈ F, H a = none) → (yLst yInt).rep K H' F0 v0 r.2 → Q v H'
theorem ok_l_wide (B : Bi mg) (CN : Cs K mg) (D : Dfn K mg "_law_wide" s_l_wide) (C_l_pick : Cal P w K mg "_law_pick" ["_law_hand_here", "_law_size"] 1 (sp_l_pick K)) (C_l_sea : Cal P w K mg "_law_sea" ["_law_hand_here", "_law_most"] 3 (sp_l_sea K)) : Cal P w K mg "_law_wide" ["_law_hand_here"] 4 (sp_l_wide K) := by
  obtain ⟨f, fd, F, g⟩ := D.ex
  refine ⟨f, fd, g, F.kp, bindsF F (fun _ _ _ _ _ _ us hl => match us, hl with | [_], _ => rfl), fun base => F.ok sc_l_wide (fun vs H Q E h => ?_) (fun cdv A outer s H0 vs Q E hr h => ?_)⟩
  · obtain ⟨v0, F0, d0, r, rfl, r0, hm, hQ⟩ := h; rfl
  ·
    obtain ⟨v0, F0, d0, r, rfl, r0, hm, hQ⟩ := h
    refine ⟨_, pss_cons (ps_set (i := 1) sc_l_wide.nd rfl (.inl rfl) (pe_ix (ix_l (K := K)) (pe_lst (pa_cons pe_int (pa_cons pe_int (pa_cons pe_int (pa_cons pe_int pa_nil))))) (pe_cc C_l_pick hr (pa_cons (pv 0) (pa_cons pe_int pa_nil))) (fun _ _ => rfl)))
      (pss_cons (ps_ret (pe_cc C_l_sea hr (pa_cons (pv 0) (pa_cons (pv 1) pa_nil)))) pss_nil), ?_⟩
    have c0 : Chg (F0) H0 H0 := Chg.refl H0
    unfold Mi.m_l_wide at hm
    refine q_asg ?_
    refine w_op ?_
    refine w_lst ?_
    refine w_args (va_cons val_c (va_cons val_c (va_cons val_c (va_cons val_c va_nil)))) ?_
    refine e_lst (K := K) (τ := yInt) (by exact Nat.le_of_ble_eq_true rfl) (.cons yInt_i (.cons yInt_i (.cons yInt_i (.cons yInt_i .nil)))) fun p1 H5 np4 c2 r3 => ?_
    have d6 : Dj F0 [p1] := Ty.nin r0 np4
    have n7 : ∀ a ∈ [p1], H0 a = none := one_fresh (c0.dom p1 np4)
    have r0 := Ty.ex r0 c2
    have c0 := c0.trans c2.none
    refine w_call ?_
    refine w_args (va_cons (val_var rfl) (va_cons val_c va_nil)) ?_
    obtain ⟨q8, hq8, hm⟩ := Mi.bnd hm
    refine ⟨v0, F0, d0, (4 : Int), q8, rfl, r0, hq8, fun H10 c9 r0 => ?_⟩
    have r3 := Ty.chg r3 c9 d6.symm
    have c0 := c0.join c9 (fun a h => .inl (h))
    obtain ⟨x11, hx11, hm⟩ := Mi.bnd hm
    refine w_ixL r3 hx11 fun u12 r13 => ?_
    obtain ⟨_, rfl⟩ := r13
    refine g_name (σ' := [some v0, some (.int x11)]) rfl ?_
    refine q_ret ?_
    refine w_call ?_
    refine w_args (va_cons (val_var rfl) (va_cons (val_var rfl) va_nil)) ?_
    obtain ⟨q14, hq14, hm⟩ := Mi.bnd hm
    have r0_old := r0
    refine ⟨v0, F0, q8.2, x11, q14, rfl, r0, hq14, fun v17 H16 F19 c15 r18 fr20 r0 => ?_⟩
    have d21 : Dj F0 F19 := Ty.fresh r0_old fr20
    have n22 : ∀ a ∈ F19, H0 a = none := fun a h => c0.dom a (fr20 a h)
    have c0 := c0.join c15 (fun a h => .inl (h))
    obtain rfl := Option.some.inj hm
    exact hQ _ _ _ c0 r18 n22 r0
abbrev s_l_flows : Stmt := topS 34
abbrev N_l_flows : List Str := ["_law_hand_here", "_law_sea_here", "_law_turn"]
theorem sc_l_flows : FnScope ["_law_hand_here", "_law_sea_here", "_law_turn"] ["_law_hand_here", "_law_sea_here"] (defScope s_l_flows) := ⟨rfl, rfl, rfl, by decide +kernel, rfl, by decide +kernel, by decide +kernel⟩
def sp_l_flows (K : PySem.W.Frag) : Sp := fun vs H Q _ => ∃ (v0 : V) (F0 : List Addr) (d0 : (List Int)) (v1 : V) (F1 : List Addr) (d1 : ((List Int) × (List (Int × Int)) × (List Int) × (List Int))) (r : ((List Int) × (List Int))), vs = [v0, v1] ∧ (yLst yInt).rep K H F0 v0 d0 ∧ (yTup (sCons (yLst yInt) (sCons (yLst (yTup (sCons yInt (sOne yInt)))) (sCons (yLst yInt) (sOne (yLst yInt)))))).rep K H F1 v1 d1 ∧ Dj F0 F1 ∧ Mi.m_l_flows d0 d1 = some r ∧ ∀ v H' F, Chg (F0) H H' → (yLst yInt).rep K H' F v r.1 → (∀ a ∈ F, H a = none) → (yLst yInt).rep K H' F0 v0 r.2 → Q v H'
theorem ok_l_flows (B : Bi mg) (CN : Cs K mg) (D : Dfn K mg "_law_flows" s_l_flows) (C_l_pick : Cal P w K mg "_law_pick" ["_law_hand_here", "_law_size"] 1 (sp_l_pick K)) : Cal P w K mg "_law_flows" ["_law_hand_here", "_law_sea_here"] 2 (sp_l_flows K) := by
  obtain ⟨f, fd, F, g⟩ := D.ex
  refine ⟨f, fd, g, F.kp, bindsF F (fun _ _ _ _ _ _ us hl => match us, hl with | [_, _], _ => rfl), fun base => F.ok sc_l_flows (fun vs H Q E h => ?_) (fun cdv A outer s H0 vs Q E hr h => ?_)⟩
  · obtain ⟨v0, F0, d0, v1, F1, d1, r, rfl, r0, r1, dd0_1, hm, hQ⟩ := h; rfl
  ·
    obtain ⟨v0, F0, d0, v1, F1, d1, r, rfl, r0, r1, dd0_1, hm, hQ⟩ := h
    refine ⟨_, pss_cons (ps_if (pt_cmpR op_eq (pe_cc C_l_pick hr (pa_cons (pv 0) (pa_cons pe_int pa_nil))) pe_int (nomark _)) (pss_cons (ps_ret (pe_lc (own := [("_law_turn", 2)]) rfl sc_l_flows.nd (pi_range1 (by rfl) B.range (pa_cons (pe_op op_add pe_int (pe_cc C_l_pick hr (pa_cons (pv 0) (pa_cons pe_int pa_nil)))) pa_nil)) (blkOk_by (own := [("_law_turn", 2)]) (N := N_l_flows) (sc := defScope s_l_flows) (by decide +kernel)) (fun _ _ _ _ _ => (pg_name (i := 2) sc_l_flows.nd rfl (.inl rfl))) (fun _ _ _ _ _ => pts_nil) (fun _ _ _ _ _ => (pe_cc C_l_pick hr (pa_cons (pv 0) (pa_cons pe_int pa_nil)))))) pss_nil) (pss_nil))
      (pss_cons (ps_ret (pe_op op_cat (pe_slice (sl_l (K := K)) (pe_ix (ix_t (K := K)) (pv 1) pe_int (fun _ _ => rfl)) (po_some pe_int) po_none) (pe_slice (sl_l (K := K)) (pe_ix (ix_t (K := K)) (pv 1) pe_int (fun _ _ => rfl)) po_none (po_some pe_int)))) pss_nil), ?_⟩
    have c0 : Chg (F0) H0 H0 := Chg.refl H0
    unfold Mi.m_l_flows at hm
    refine q_ifS ?_
    refine w_test ?_
    refine w_op ?_
    refine w_call ?_
    refine w_args (va_cons (val_var rfl) (va_cons val_c va_nil)) ?_
    obtain ⟨q1, hq1, hm⟩ := Mi.bnd hm
    refine ⟨v0, F0, d0, (2 : Int), q1, rfl, r0, hq1, fun H3 c2 r0 => ?_⟩
    have r1 := Ty.chg r1 c2 dd0_1.symm
    have c0 := c0.join c2 (fun a h => .inl (h))
    refine c_val val_c ?_
    refine w_eqI ?_
    refine ⟨_, rfl, ?_⟩
    refine c_if (fun hb => ?_) (fun hb => ?_)
    ·
      replace hm := Mi.ifT hb hm
      refine q_ret ?_
      refine w_lc ?_
      refine w_iRng1 ?_
      refine w_cons ?_
      refine w_op ?_
      refine c_val val_c ?_
      refine w_call ?_
      refine w_args (va_cons (val_var rfl) (va_cons val_c va_nil)) ?_
      obtain ⟨q4, hq4, hm⟩ := Mi.bnd hm
      refine ⟨v0, F0, q1.2, (12 : Int), q4, rfl, r0, hq4, fun H6 c5 r0 => ?_⟩
      have r1 := Ty.chg r1 c5 dd0_1.symm
      have c0 := c0.join c5 (fun a h => .inl (h))
      refine w_I0 ?_
      refine w_nil ?_
      obtain ⟨g7, hg7, hm⟩ := Mi.bnd hm
      obtain ⟨e8, he8, hm⟩ := Mi.bnd hm
      refine kc_rng1 (K := K) (τ := yInt) hg7 (fun D10 i H' => ∃ (s9 : ((List Int) × (List Int))), Chg (F0) H0 H' ∧ (yLst yInt).rep K H' F0 v0 s9.2 ∧ (yTup (sCons (yLst yInt) (sCons (yLst (yTup (sCons yInt (sOne yInt)))) (sCons (yLst yInt) (sOne (yLst yInt)))))).rep K H' F1 v1 d1 ∧ (yLst yInt).rep K H' [D10] (.ref D10) s9.1 ∧ Dj F0 [D10] ∧ Dj F1 [D10] ∧ (∀ a ∈ [D10], H0 a = none) ∧ Mi.forN (Mi.m_l_flows_b1) s9 (List.drop i g7) = some e8) (fun D10 H17 np16 c15 r11 => ⟨(([] : (List Int)), q4.2), c0.trans c15.none, (Ty.ex r0 c15), (Ty.ex r1 c15), r11, Ty.nin r0 np16, Ty.nin r1 np16, one_fresh (c0.dom D10 np16), he8⟩) (fun D10 i20 x19 H21 hx18 hp => ?_) (fun D10 H' np16 hp => ?_)
      ·
        obtain ⟨s9, c0, r0, r1, r11, d12, d13, n14, hle8⟩ := hp
        obtain ⟨_, hbe8, hle8⟩ := Mi.forN_go hle8 hx18
        unfold Mi.m_l_flows_b1 at hbe8
        refine g_name (σ' := [some v0, some v1, some (.int x19)]) rfl ?_
        refine ⟨rfl, ?_⟩
        refine w_yes ?_
        refine iteT ?_
        refine w_call ?_
        refine w_args (va_cons (val_var rfl) (va_cons val_c va_nil)) ?_
        obtain ⟨q26, hq26, hbe8⟩ := Mi.bnd hbe8
        refine ⟨v0, F0, s9.2, (21 : Int), q26, rfl, r0, hq26, fun H28 c27 r0 => ?_⟩
        have r1 := Ty.chg r1 c27 dd0_1.symm
        have r11 := Ty.chg r11 c27 d12.symm
        have c0 := c0.join c27 (fun a h => .inl (h))
        obtain ⟨x29, hx29, hbe8⟩ := Mi.bnd hbe8
        refine e_app r11 yInt_i hx29 fun H31 c30 r11 => ?_
        have r0 := Ty.chg r0 c30 d12
        have r1 := Ty.chg r1 c30 d13
        have c0 := c0.join c30 (fun a h => .inr (n14 a h))
        obtain rfl := Option.some.inj hbe8
        exact ⟨(x29, q26.2), c0, r0, r1, r11, d12, d13, n14, hle8⟩
      obtain ⟨s9, c0, r0, r1, r11, d12, d13, n14, hle8⟩ := hp
      obtain rfl := Mi.forN_end hle8
      obtain rfl := Option.some.inj hm
      exact hQ _ _ _ c0 r11 n14 r0
    replace hm := Mi.ifF hb hm
    refine w_fall ?_
    refine q_ret ?_
    refine w_op ?_
    refine w_sl ?_
    obtain ⟨u32, F33, r34, su35, kx36, ku37⟩ := itm_tup (n := 2) (atS (atS at0)) r1
    have d38 : Dj F33 F0 := Dj.sub (dd0_1.symm) su35
    refine c_val (ku37 (val_var rfl) val_c) ?_
    refine w_pos ?_
    refine c_val val_c ?_
    refine ⟨_, rfl, ?_⟩
    refine w_pon ?_
    refine w_cutL r34 fun p39 H43 np42 c40 r41 => ?_
    have d44 : Dj F0 [p39] := Ty.nin r0 np42
    have d45 : Dj F1 [p39] := Ty.nin r1 np42
    have d46 : Dj F33 [p39] := Ty.nin r34 np42
    have n47 : ∀ a ∈ [p39], H0 a = none := one_fresh (c0.dom p39 np42)
    have r0 := Ty.ex r0 c40
    have r1 := Ty.ex r1 c40
    have r34 := Ty.ex r34 c40
    have c0 := c0.trans c40.none
    refine w_sl ?_
    obtain ⟨u48, F49, r50, su51, kx52, ku53⟩ := itm_tup (n := 2) (atS (atS at0)) r1
    have d54 : Dj F49 F0 := Dj.sub (dd0_1.symm) su51
    have d55 : Dj F49 [p39] := Dj.sub (d45) su51
    refine c_val (ku53 (val_var rfl) val_c) ?_
    refine w_pon ?_
    refine w_pos ?_
    refine c_val val_c ?_
    refine ⟨_, rfl, ?_⟩
    refine w_cutL r50 fun p56 H60 np59 c57 r58 => ?_
    have d61 : Dj F0 [p56] := Ty.nin r0 np59
    have d62 : Dj F1 [p56] := Ty.nin r1 np59
    have d63 : Dj [p39] [p56] := Ty.nin r41 np59
    have d64 : Dj F49 [p56] := Ty.nin r50 np59
    have n65 : ∀ a ∈ [p56], H0 a = none := one_fresh (c0.dom p56 np59)
    have r0 := Ty.ex r0 c57
    have r1 := Ty.ex r1 c57
    have r41 := Ty.ex r41 c57
    have r50 := Ty.ex r50 c57
    have c0 := c0.trans c57.none
    obtain ⟨x66, hx66, hm⟩ := Mi.bnd hm
    refine w_cat r41 r58 hx66 fun p67 H71 np70 c68 r69 => ?_
    have d72 : Dj F0 [p67] := Ty.nin r0 np70
    have d73 : Dj F1 [p67] := Ty.nin r1 np70
    have d74 : Dj [p39] [p67] := Ty.nin r41 np70
    have d75 : Dj [p56] [p67] := Ty.nin r58 np70
    have n76 : ∀ a ∈ [p67], H0 a = none := one_fresh (c0.dom p67 np70)
    have r0 := Ty.ex r0 c68
    have r1 := Ty.ex r1 c68
    have r41 := Ty.ex r41 c68
    have r58 := Ty.ex r58 c68
    have c0 := c0.trans c68.none
    obtain rfl := Option.some.inj hm
    exact hQ _ _ _ c0 r69 n76 r0
abbrev s_l_thinned : Stmt := topS 35
abbrev N_l_thinned : List Str := ["_law_hand_here", "_law_joins", "_law_most", "_law_share", "_law_pair"]
theorem sc_l_thinned : FnScope ["_law_hand_here", "_law_joins", "_law_most", "_law_share", "_law_pair"] ["_law_hand_here", "_law_joins", "_law_most"] (defScope s_l_thinned) := ⟨rfl, rfl, rfl, by decide +kernel, rfl, by decide +kernel, by decide +kernel⟩
def sp_l_thinned (K : PySem.W.Frag) : Sp := fun vs H Q _ => ∃ (v0 : V) (F0 : List Addr) (d0 : (List Int)) (v1 : V) (F1 : List Addr) (d1 : (List (Int × Int))) (d2 : Int) (r : ((List (Int × Int)) × (List Int))), vs = [v0, v1, (.int d2)] ∧ (yLst yInt).rep K H F0 v0 d0 ∧ (yLst (yTup (sCons yInt (sOne yInt)))).rep K H F1 v1 d1 ∧ Dj F0 F1 ∧ Mi.m_l_thinned d0 d1 d2 = some r ∧ ∀ v H' F, Chg (F0) H H' → (yLst (yTup (sCons yInt (sOne yInt)))).rep K H' F v r.1 → (∀ a ∈ F, H a = none) → (yLst yInt).rep K H' F0 v0 r.2 → Q v H'
theorem ok_l_thinned (B : Bi mg) (CN : Cs K mg) (D : Dfn K mg "_law_thinned" s_l_thinned) (C_l_pick : Cal P w K mg "_law_pick" ["_law_hand_here", "_law_size"] 1 (sp_l_pick K)) : Cal P w K mg "_law_thinned" ["_law_hand_here", "_law_joins", "_law_most"] 2 (sp_l_thinned K) := by
  obtain ⟨f, fd, F, g⟩ := D.ex
  refine ⟨f, fd, g, F.kp, bindsF F (fun _ _ _ _ _ _ us hl => match us, hl with | [_, _, _], _ => rfl), fun base => F.ok sc_l_thinned (fun vs H Q E h => ?_) (fun cdv A outer s H0 vs Q E hr h => ?_)⟩
  · obtain ⟨v0, F0, d0, v1, F1, d1, d2, r, rfl, r0, r1, dd0_1, hm, hQ⟩ := h; rfl
  ·
    obtain ⟨v0, F0, d0, v1, F1, d1, d2, r, rfl, r0, r1, dd0_1, hm, hQ⟩ := h
    refine ⟨_, pss_cons (ps_set (i := 3) sc_l_thinned.nd rfl (.inr rfl) (pe_op op_add pe_int (pe_cc C_l_pick hr (pa_cons (pv 0) (pa_cons (pv 2) pa_nil)))))
      (pss_cons (ps_ret (pe_lc (own := [("_law_pair", 4)]) rfl sc_l_thinned.nd (pi_list (pv 1)) (blkOk_by (own := [("_law_pair", 4)]) (N := N_l_thinned) (sc := defScope s_l_thinned) (by decide +kernel)) (fun _ _ _ _ _ => (pg_name (i := 4) sc_l_thinned.nd rfl (.inl rfl))) (fun _ _ _ _ _ => (pts_one (pt_cmpR op_eq (pe_cc C_l_pick hr (pa_cons (pv 0) (pa_cons (pv 3) pa_nil))) pe_int (nomark _)))) (fun _ _ _ _ _ => (pv 4)))) pss_nil), ?_⟩
    have c0 : Chg (F0) H0 H0 := Chg.refl H0
    unfold Mi.m_l_thinned at hm
    refine q_asg ?_
    refine w_op ?_
    refine c_val val_c ?_
    refine w_call ?_
    refine w_args (va_cons (val_var rfl) (va_cons (val_var rfl) va_nil)) ?_
    obtain ⟨q1, hq1, hm⟩ := Mi.bnd hm
    refine ⟨v0, F0, d0, d2, q1, rfl, r0, hq1, fun H3 c2 r0 => ?_⟩
    have r1 := Ty.chg r1 c2 dd0_1.symm
    have c0 := c0.join c2 (fun a h => .inl (h))
    refine w_I0 ?_
    obtain ⟨share4, hshare4, hm⟩ := Mi.letE hm
    refine g_nameE (congrArg V.int hshare4) (σ' := [some v0, some v1, some (.int d2), some (.int share4), none]) rfl ?_
    refine q_ret ?_
    refine w_lc ?_
    refine w_iList ?_
    refine c_val (val_var rfl) ?_
    obtain ⟨e5, he5, hm⟩ := Mi.bnd hm
    refine kc_lst (K := K) (τ := (yTup (sCons yInt (sOne yInt)))) r1 (fun D7 i H' => ∃ (s6 : ((List (Int × Int)) × (List Int))), Chg (F0) H0 H' ∧ (yLst yInt).rep K H' F0 v0 s6.2 ∧ (yLst (yTup (sCons yInt (sOne yInt)))).rep K H' F1 v1 d1 ∧ (yLst (yTup (sCons yInt (sOne yInt)))).rep K H' [D7] (.ref D7) s6.1 ∧ Dj F0 [D7] ∧ Dj F1 [D7] ∧ (∀ a ∈ [D7], H0 a = none) ∧ Mi.forN (Mi.m_l_thinned_b1 share4) s6 (List.drop i d1) = some e5) (fun D7 H14 np13 c12 r8 => ⟨(([] : (List (Int × Int))), q1.2), c0.trans c12.none, (Ty.ex r0 c12), (Ty.ex r1 c12), r8, Ty.nin r0 np13, Ty.nin r1 np13, one_fresh (c0.dom D7 np13), he5⟩) (fun D7 i H' hp => by obtain ⟨s6, c0, r0, r1, r8, d9, d10, n11, _⟩ := hp; exact r1) (fun D7 i17 x16 u19 H18 hx15 r20 hp => ?_) (fun D7 H' np13 hp => ?_)
    ·
      obtain ⟨s6, c0, r0, r1, r8, d9, d10, n11, hle5⟩ := hp
      obtain ⟨_, hbe5, hle5⟩ := Mi.forN_go hle5 hx15
      unfold Mi.m_l_thinned_b1 at hbe5
      refine g_name (σ' := [some v0, some v1, some (.int d2), some (.int share4), some u19]) rfl ?_
      refine ⟨rfl, ?_⟩
      refine w_test ?_
      refine w_op ?_
      refine w_call ?_
      refine w_args (va_cons (val_var rfl) (va_cons (val_var rfl) va_nil)) ?_
      obtain ⟨q23, hq23, hbe5⟩ := Mi.bnd hbe5
      refine ⟨v0, F0, s6.2, share4, q23, rfl, r0, hq23, fun H25 c24 r0 => ?_⟩
      have r1 := Ty.chg r1 c24 dd0_1.symm
      have r20 := Ty.fz r20 c24
      have r8 := Ty.chg r8 c24 d9.symm
      have c0 := c0.join c24 (fun a h => .inl (h))
      refine c_val val_c ?_
      refine w_eqI ?_
      refine ⟨_, rfl, ?_⟩
      refine c_if (fun hb => ?_) (fun hb => ?_)
      ·
        replace hbe5 := Mi.ifT hb hbe5
        refine c_val (val_var rfl) ?_
        obtain ⟨x26, hx26, hbe5⟩ := Mi.bnd hbe5
        refine e_app r8 r20 hx26 fun H28 c27 r8 => ?_
        have r0 := Ty.chg r0 c27 d9
        have r1 := Ty.chg r1 c27 d10
        have r20 := Ty.fz r20 c27
        have c0 := c0.join c27 (fun a h => .inr (n11 a h))
        obtain rfl := Option.some.inj hbe5
        exact ⟨(x26, q23.2), c0, r0, r1, r8, d9, d10, n11, hle5⟩
      ·
        replace hbe5 := Mi.ifF hb hbe5
        obtain rfl := Option.some.inj hbe5
        exact ⟨(s6.1, q23.2), c0, r0, r1, r8, d9, d10, n11, hle5⟩
    obtain ⟨s6, c0, r0, r1, r8, d9, d10, n11, hle5⟩ := hp
    obtain rfl := Mi.forN_end hle5
    obtain rfl := Option.some.inj hm
    exact hQ _ _ _ c0 r8 n11 r0
abbrev s_l_stirred : Stmt := topS 36
abbrev N_l_stirred : List Str := ["_law_hand_here", "_law_rows", "_law_left", "_law_stirred_here", "_law_turn"]
theorem sc_l_stirred : FnScope ["_law_hand_here", "_law_rows", "_law_left", "_law_stirred_here", "_law_turn"] ["_law_hand_here", "_law_rows"] (defScope s_l_stirred) := ⟨rfl, rfl, rfl, by decide +kernel, rfl, by decide +kernel, by decide +kernel⟩
def sp_l_stirred (K : PySem.W.Frag) : Sp := fun vs H Q _ => ∃ (v0 : V) (F0 : List Addr) (d0 : (List Int)) (v1 : V) (F1 : List Addr) (d1 : (List Int)) (r : ((List Int) × (List Int))), vs = [v0, v1] ∧ (yLst yInt).rep K H F0 v0 d0 ∧ (yLst yInt).rep K H F1 v1 d1 ∧ Dj F0 F1 ∧ Mi.m_l_stirred d0 d1 = some r ∧ ∀ v H' F, Chg (F0) H H' → (yLst yInt).rep K H' F v r.1 → (∀ a ∈ F, H a = none) → (yLst yInt).rep K H' F0 v0 r.2 → Q v H'
theorem ok_l_stirred (B : Bi mg) (CN : Cs K mg) (D : Dfn K mg "_law_stirred" s_l_stirred) (C_l_pick : Cal P w K mg "_law_pick" ["_law_hand_here", "_law_size"] 1 (sp_l_pick K)) : Cal P w K mg "_law_stirred" ["_law_hand_here", "_law_rows"] 2 (sp_l_stirred K) := by
  obtain ⟨f, fd, F, g⟩ := D.ex
  refine ⟨f, fd, g, F.kp, bindsF F (fun _ _ _ _ _ _ us hl => match us, hl with | [_, _], _ => rfl), fun base => F.ok sc_l_stirred (fun vs H Q E h => ?_) (fun cdv A outer s H0 vs Q E hr h => ?_)⟩
  · obtain ⟨v0, F0, d0, v1, F1, d1, r, rfl, r0, r1, dd0_1, hm, hQ⟩ := h; rfl
  ·
    obtain ⟨v0, F0, d0, v1, F1, d1, r, rfl, r0, r1, dd0_1, hm, hQ⟩ := h
    refine ⟨_, pss_cons (ps_set (i := 2) sc_l_stirred.nd rfl (.inl rfl) (pe_callTy (cl_list (K := K)) (by rfl) B.list (by decide +kernel) (pa_cons (pv 1) pa_nil)))
      (pss_cons (ps_set (i := 3) sc_l_stirred.nd rfl (.inl rfl) (pe_lst pa_nil))
      (pss_cons (ps_for PassesOwn.never rfl (pi_range1 (by rfl) B.range (pa_cons (pe_callB (cl_len (K := K)) (by rfl) B.len PySem.boot_len (pa_cons (pv 1) pa_nil)) pa_nil)) (pg_name (i := 4) sc_l_stirred.nd rfl (.inl rfl)) (pss_cons (ps_expr (pe_bm PySem.F.plainAttrs_list PySem.F.slot_list_append PySem.F.type_list_append mt_append (pv 3) (pa_cons (pe_bm PySem.F.plainAttrs_list PySem.F.slot_list_pop PySem.F.type_list_pop mt_popAt (pv 2) (pa_cons (pe_cc C_l_pick hr (pa_cons (pv 0) (pa_cons (pe_callB (cl_len (K := K)) (by rfl) B.len PySem.boot_len (pa_cons (pv 2) pa_nil)) pa_nil))) pa_nil)) pa_nil)))
      (pss_nil)))
      (pss_cons (ps_ret (pv 3)) pss_nil))), ?_⟩
    have c0 : Chg (F0) H0 H0 := Chg.refl H0
    unfold Mi.m_l_stirred at hm
    refine q_asg ?_
    refine w_cb ?_
    refine w_args (va_cons (val_var rfl) va_nil) ?_
    refine w_listL r1 fun p1 H5 np4 c2 r3 => ?_
    have d6 : Dj F0 [p1] := Ty.nin r0 np4
    have d7 : Dj F1 [p1] := Ty.nin r1 np4
    have n8 : ∀ a ∈ [p1], H0 a = none := one_fresh (c0.dom p1 np4)
    have r0 := Ty.ex r0 c2
    have r1 := Ty.ex r1 c2
    have c0 := c0.trans c2.none
    refine g_name (σ' := [some v0, some v1, some (.ref p1), none, none]) rfl ?_
    refine q_asg ?_
    refine w_lst ?_
    refine w_args va_nil ?_
    refine e_lst (K := K) (τ := yInt) (by exact Nat.le_of_ble_eq_true rfl) .nil fun p9 H13 np12 c10 r11 => ?_
    have d14 : Dj F0 [p9] := Ty.nin r0 np12
    have d15 : Dj F1 [p9] := Ty.nin r1 np12
    have d16 : Dj [p1] [p9] := Ty.nin r3 np12
    have n17 : ∀ a ∈ [p9], H0 a = none := one_fresh (c0.dom p9 np12)
    have r0 := Ty.ex r0 c10
    have r1 := Ty.ex r1 c10
    have r3 := Ty.ex r3 c10
    have c0 := c0.trans c10.none
    refine g_name (σ' := [some v0, some v1, some (.ref p1), some (.ref p9), none]) rfl ?_
    refine q_for ?_
    refine w_iRng1 ?_
    refine w_args (va_cons (val_lenL r1 (val_var rfl)) va_nil) ?_
    obtain ⟨g18, hg18, hm⟩ := Mi.bnd hm
    obtain ⟨e19, he19, hm⟩ := Mi.bnd hm
    refine l_rng1 hg18 (fun i σ' H' => ∃ (s20 : ((List Int) × (List Int) × (List Int))) (y21 : Option V), σ' = [some v0, some v1, some (.ref p1), some (.ref p9), y21] ∧ Chg (F0) H0 H' ∧ (yLst yInt).rep K H' F0 v0 s20.1 ∧ (yLst yInt).rep K H' F1 v1 d1 ∧ (yLst yInt).rep K H' [p1] (.ref p1) s20.2.1 ∧ (yLst yInt).rep K H' [p9] (.ref p9) s20.2.2 ∧ Mi.forN (Mi.m_l_stirred_b1) s20 (List.drop i g18) = some e19) ⟨(d0, d1, ([] : (List Int))), none, rfl, c0, r0, r1, r3, r11, he19⟩ (fun i24 x23 σ' H' hx22 hp => ?_) (fun σ' H' hp => ?_)
    ·
      obtain ⟨s20, y21, rfl, c0, r0, r1, r3, r11, hle19⟩ := hp
      obtain ⟨_, hbe19, hle19⟩ := Mi.forN_go hle19 hx22
      unfold Mi.m_l_stirred_b1 at hbe19
      refine g_name (σ' := [some v0, some v1, some (.ref p1), some (.ref p9), some (.int x23)]) rfl ?_
      refine q_drop (w_bm (c_val (val_var rfl) ⟨tyv_lst r11, ?_⟩))
      refine w_cons ?_
      refine w_bm (c_val (val_var rfl) ⟨tyv_lst r3, ?_⟩)
      refine w_cons ?_
      refine w_call ?_
      refine w_args (va_cons (val_var rfl) (va_cons (val_lenL r3 (val_var rfl)) va_nil)) ?_
      obtain ⟨q25, hq25, hbe19⟩ := Mi.bnd hbe19
      refine ⟨v0, F0, s20.1, (s20.2.1.length : Int), q25, rfl, r0, hq25, fun H27 c26 r0 => ?_⟩
      have r1 := Ty.chg r1 c26 dd0_1.symm
      have r3 := Ty.chg r3 c26 d6.symm
      have r11 := Ty.chg r11 c26 d14.symm
      have c0 := c0.join c26 (fun a h => .inl (h))
      refine w_nil ?_
      obtain ⟨z28, hz28, hbe19⟩ := Mi.bnd hbe19
      obtain ⟨x29, hx29, hbe19⟩ := Mi.bnd hbe19
      refine m_popAt r3 hx29 (of_guard hz28) fun u32 H31 c30 r33 r3 => ?_
      have r0 := Ty.chg r0 c30 d6
      have r1 := Ty.chg r1 c30 d7
      have r11 := Ty.chg r11 c30 d16.symm
      have c0 := c0.join c30 (fun a h => .inr (n8 a h))
      obtain ⟨_, rfl⟩ := r33
      refine w_nil ?_
      obtain ⟨x34, hx34, hbe19⟩ := Mi.bnd hbe19
      refine m_app r11 yInt_i hx34 fun H36 c35 r11 => ?_
      have r0 := Ty.chg r0 c35 d14
      have r1 := Ty.chg r1 c35 d15
      have r3 := Ty.chg r3 c35 d16
      have c0 := c0.join c35 (fun a h => .inr (n17 a h))
      refine w_nextJ ?_
      obtain rfl := Option.some.inj hbe19
      exact ⟨_, (some (.int x23)), rfl, c0, r0, r1, r3, r11, hle19⟩
    obtain ⟨s20, y21, rfl, c0, r0, r1, r3, r11, hle19⟩ := hp
    obtain rfl := Mi.forN_end hle19
    refine q_ret ?_
    refine c_val (val_var rfl) ?_
    obtain rfl := Option.some.inj hm
    exact hQ _ _ _ c0 r11 n17 r0
abbrev s_l_strung : Stmt := topS 37
abbrev N_l_strung : List Str := ["_law_hand_here", "_law_joins", "_law_size", "_law_order", "_law_k"]
theorem sc_l_strung : FnScope ["_law_hand_here", "_law_joins", "_law_size", "_law_order", "_law_k"] ["_law_hand_here", "_law_joins", "_law_size"] (defScope s_l_strung) := ⟨rfl, rfl, rfl, by decide +kernel, rfl, by decide +kernel, by decide +kernel⟩
def sp_l_strung (K : PySem.W.Frag) : Sp := fun vs H Q _ => ∃ (v0 : V) (F0 : List Addr) (d0 : (List Int)) (v1 : V) (F1 : List Addr) (d1 : (List (Int × Int))) (d2 : Int) (r : ((List (Int × Int)) × (List Int))), vs = [v0, v1, (.int d2)] ∧ (yLst yInt).rep K H F0 v0 d0 ∧ (yLst (yTup (sCons yInt (sOne yInt)))).rep K H F1 v1 d1 ∧ Dj F0 F1 ∧ Mi.m_l_strung d0 d1 d2 = some r ∧ ∀ v H' F, Chg (F0) H H' → (yLst (yTup (sCons yInt (sOne yInt)))).rep K H' F v r.1 → (∀ a ∈ F, H a = none ∨ a ∈ F1) → (yLst yInt).rep K H' F0 v0 r.2 → Q v H'
theorem ok_l_strung (B : Bi mg) (CN : Cs K mg) (D : Dfn K mg "_law_strung" s_l_strung) (C_l_pick : Cal P w K mg "_law_pick" ["_law_hand_here", "_law_size"] 1 (sp_l_pick K)) (C_l_stirred : Cal P w K mg "_law_stirred" ["_law_hand_here", "_law_rows"] 2 (sp_l_stirred K)) : Cal P w K mg "_law_strung" ["_law_hand_here", "_law_joins", "_law_size"] 3 (sp_l_strung K) := by
  obtain ⟨f, fd, F, g⟩ := D.ex
  refine ⟨f, fd, g, F.kp, bindsF F (fun _ _ _ _ _ _ us hl => match us, hl with | [_, _, _], _ => rfl), fun base => F.ok sc_l_strung (fun vs H Q E h => ?_) (fun cdv A outer s H0 vs Q E hr h => ?_)⟩
  · obtain ⟨v0, F0, d0, v1, F1, d1, d2, r, rfl, r0, r1, dd0_1, hm, hQ⟩ := h; rfl
  ·
    obtain ⟨v0, F0, d0, v1, F1, d1, d2, r, rfl, r0, r1, dd0_1, hm, hQ⟩ := h
    refine ⟨_, pss_cons (ps_if (pt_cmpR op_ne (pe_cc C_l_pick hr (pa_cons (pv 0) (pa_cons pe_int pa_nil))) pe_int (nomark _)) (pss_cons (ps_ret (pv 1)) pss_nil) (pss_nil))
      (pss_cons (ps_set (i := 3) sc_l_strung.nd rfl (.inr rfl) (pe_cc C_l_stirred hr (pa_cons (pv 0) (pa_cons (pe_listRg rfl (by rfl) B.list (prg_1 (by rfl) B.range (pv 2))) pa_nil))))
      (pss_cons (ps_ret (pe_lc (own := [("_law_k", 4)]) rfl sc_l_strung.nd (pi_range1 (by rfl) B.range (pa_cons (pe_op op_sub (pv 2) pe_int) pa_nil)) (blkOk_by (own := [("_law_k", 4)]) (N := N_l_strung) (sc := defScope s_l_strung) (by decide +kernel)) (fun _ _ _ _ _ => (pg_name (i := 4) sc_l_strung.nd rfl (.inl rfl))) (fun _ _ _ _ _ => pts_nil) (fun _ _ _ _ _ => (pe_tup (pa_cons (pe_callB (cl_min2 rfl) (by rfl) B.min (by decide +kernel) (pa_cons (pe_ix (ix_l (K := K)) (pv 3) (pv 4) (fun _ _ => rfl)) (pa_cons (pe_ix (ix_l (K := K)) (pv 3) (pe_op op_add (pv 4) pe_int) (fun _ _ => rfl)) pa_nil))) (pa_cons (pe_callB (cl_max2 rfl) (by rfl) B.max (by decide +kernel) (pa_cons (pe_ix (ix_l (K := K)) (pv 3) (pv 4) (fun _ _ => rfl)) (pa_cons (pe_ix (ix_l (K := K)) (pv 3) (pe_op op_add (pv 4) pe_int) (fun _ _ => rfl)) pa_nil))) pa_nil)))))) pss_nil)), ?_⟩
    have c0 : Chg (F0) H0 H0 := Chg.refl H0
    unfold Mi.m_l_strung at hm
    refine q_ifS ?_
    refine w_test ?_
    refine w_op ?_
    refine w_call ?_
    refine w_args (va_cons (val_var rfl) (va_cons val_c va_nil)) ?_
    obtain ⟨q1, hq1, hm⟩ := Mi.bnd hm
    refine ⟨v0, F0, d0, (8 : Int), q1, rfl, r0, hq1, fun H3 c2 r0 => ?_⟩
    have r1 := Ty.chg r1 c2 dd0_1.symm
    have c0 := c0.join c2 (fun a h => .inl (h))
    refine c_val val_c ?_
    refine w_neI ?_
    refine ⟨_, rfl, ?_⟩
    refine c_if (fun hb => ?_) (fun hb => ?_)
    ·
      replace hm := Mi.ifT hb hm
      refine q_ret ?_
      refine c_val (val_var rfl) ?_
      obtain rfl := Option.some.inj hm
      exact hQ _ _ _ c0 r1 (fun a h => .inr h) r0
    replace hm := Mi.ifF hb hm
    refine w_fall ?_
    refine q_asg ?_
    refine w_call ?_
    refine w_cons ?_
    refine c_val (val_var rfl) ?_
    refine w_cons ?_
    refine w_lrng1 ?_
    refine c_val (val_var rfl) ?_
    obtain ⟨g4, hg4, hm⟩ := Mi.bnd hm
    refine x_lrng1 (K := K) hg4 fun p5 H9 np8 c6 r7 => ?_
    have d10 : Dj F0 [p5] := Ty.nin r0 np8
    have d11 : Dj F1 [p5] := Ty.nin r1 np8
    have n12 : ∀ a ∈ [p5], H0 a = none := one_fresh (c0.dom p5 np8)
    have r0 := Ty.ex r0 c6
    have r1 := Ty.ex r1 c6
    have c0 := c0.trans c6.none
    refine w_nil ?_
    obtain ⟨q13, hq13, hm⟩ := Mi.bnd hm
    have r0_old := r0
    refine ⟨v0, F0, q1.2, (.ref p5), [p5], g4, q13, rfl, r0, r7, d10, hq13, fun v16 H15 F18 c14 r17 fr19 r0 => ?_⟩
    have d20 : Dj F0 F18 := Ty.fresh r0_old fr19
    have d21 : Dj F1 F18 := Ty.fresh r1 fr19
    have n22 : ∀ a ∈ F18, H0 a = none := fun a h => c0.dom a (fr19 a h)
    have r1 := Ty.chg r1 c14 dd0_1.symm
    have c0 := c0.join c14 (fun a h => .inl (h))
    refine g_name (σ' := [some v0, some v1, some (.int d2), some v16, none]) rfl ?_
    refine q_ret ?_
    refine w_lc ?_
    refine w_iRng1 ?_
    refine w_args (va_cons (val_sub (val_var rfl) val_c) va_nil) ?_
    obtain ⟨g23, hg23, hm⟩ := Mi.bnd hm
    obtain ⟨e24, he24, hm⟩ := Mi.bnd hm
    refine kc_rng1 (K := K) (τ := (yTup (sCons yInt (sOne yInt)))) hg23 (fun D26 i H' => ∃ (s25 : (List (Int × Int))), Chg (F0) H0 H' ∧ (yLst yInt).rep K H' F0 v0 q13.2 ∧ (yLst (yTup (sCons yInt (sOne yInt)))).rep K H' F1 v1 d1 ∧ (yLst yInt).rep K H' F18 v16 q13.1 ∧ (yLst (yTup (sCons yInt (sOne yInt)))).rep K H' [D26] (.ref D26) s25 ∧ Dj F0 [D26] ∧ Dj F1 [D26] ∧ Dj F18 [D26] ∧ (∀ a ∈ [D26], H0 a = none) ∧ Mi.forN (Mi.m_l_strung_b1 q13) s25 (List.drop i g23) = some e24) (fun D26 H34 np33 c32 r27 => ⟨([] : (List (Int × Int))), c0.trans c32.none, (Ty.ex r0 c32), (Ty.ex r1 c32), (Ty.ex r17 c32), r27, Ty.nin r0 np33, Ty.nin r1 np33, Ty.nin r17 np33, one_fresh (c0.dom D26 np33), he24⟩) (fun D26 i37 x36 H38 hx35 hp => ?_) (fun D26 H' np33 hp => ?_)
    ·
      obtain ⟨s25, c0, r0, r1, r17, r27, d28, d29, d30, n31, hle24⟩ := hp
      obtain ⟨_, hbe24, hle24⟩ := Mi.forN_go hle24 hx35
      unfold Mi.m_l_strung_b1 at hbe24
      refine g_name (σ' := [some v0, some v1, some (.int d2), some v16, some (.int x36)]) rfl ?_
      refine ⟨rfl, ?_⟩
      refine w_yes ?_
      refine iteT ?_
      refine w_tup ?_
      obtain ⟨x43, hx43, hbe24⟩ := Mi.bnd hbe24
      obtain ⟨x44, hx44, hbe24⟩ := Mi.bnd hbe24
      obtain ⟨x45, hx45, hbe24⟩ := Mi.bnd hbe24
      obtain ⟨x46, hx46, hbe24⟩ := Mi.bnd hbe24
      refine w_args (va_cons (val_min2 (itm_LI r17 hx43 (val_var rfl) (val_var rfl)) (itm_LI r17 hx44 (val_var rfl) (val_add (val_var rfl) val_c))) (va_cons (val_max2 (itm_LI r17 hx45 (val_var rfl) (val_var rfl)) (itm_LI r17 hx46 (val_var rfl) (val_add (val_var rfl) val_c))) va_nil)) ?_
      refine e_tup (K := K) (ty := (sCons yInt (sOne yInt))) (F := []) (d := ((min x43 x44), (max x45 x46))) (by exact Nat.le_of_ble_eq_true rfl) ⟨_, _, _, _, rfl, rfl, yInt_i, ⟨_, rfl, yInt_i⟩⟩ fun p47 H51 np50 c48 r49 => ?_
      have r0 := Ty.ex r0 c48
      have r1 := Ty.ex r1 c48
      have r17 := Ty.ex r17 c48
      have r27 := Ty.ex r27 c48
      have c0 := c0.trans c48.none
      obtain ⟨x52, hx52, hbe24⟩ := Mi.bnd hbe24
      refine e_app r27 r49 hx52 fun H54 c53 r27 => ?_
      have r0 := Ty.chg r0 c53 d28
      have r1 := Ty.chg r1 c53 d29
      have r17 := Ty.chg r17 c53 d30
      have c0 := c0.join c53 (fun a h => .inr (n31 a h))
      obtain rfl := Option.some.inj hbe24
      exact ⟨x52, c0, r0, r1, r17, r27, d28, d29, d30, n31, hle24⟩
    obtain ⟨s25, c0, r0, r1, r17, r27, d28, d29, d30, n31, hle24⟩ := hp
    obtain rfl := Mi.forN_end hle24
    obtain rfl := Option.some.inj hm
    exact hQ _ _ _ c0 r27 (fun a h => .inl (n31 a h)) r0
abbrev s_l_state : Stmt := topS 38
abbrev N_l_state : List Str := ["_law_chart_here"]
theorem sc_l_state : FnScope ["_law_chart_here"] ["_law_chart_here"] (defScope s_l_state) := ⟨rfl, rfl, rfl, by decide +kernel, rfl, by decide +kernel, by decide +kernel⟩
def sp_l_state (K : PySem.W.Frag) (C_Chart : Addr) : Sp := fun vs H Q _ => ∃ (v0 : V) (d0 : (Int × (List Int) × (List (Int × Int)) × (List Int) × (List Int) × (List (List Int)))) (r : (Int × (List Int) × (List (Int × Int)) × (List Int) × (List Int))), vs = [v0] ∧ (yObj C_Chart nm_Chart ty_Chart).rep K H [] v0 d0 ∧ Mi.m_l_state d0 = some r ∧ ∀ v H', Chg ([]) H H' → (yTup (sCons yInt (sCons (yTupL yInt) (sCons (yTupL (yTup (sCons yInt (sOne yInt)))) (sCons (yTupL yInt) (sOne (yTupL yInt))))))).rep K H' [] v r → Q v H'
theorem ok_l_state (B : Bi mg) (CN : Cs K mg) (D : Dfn K mg "_law_state" s_l_state) {C_Chart : Addr} (T_Chart : Tx K mg C_Chart "Chart" nm_Chart) : Cal P w K mg "_law_state" ["_law_chart_here"] 1 (sp_l_state K C_Chart) := by
  obtain ⟨f, fd, F, g⟩ := D.ex
  refine ⟨f, fd, g, F.kp, bindsF F (fun _ _ _ _ _ _ us hl => match us, hl with | [_], _ => rfl), fun base => F.ok sc_l_state (fun vs H Q E h => ?_) (fun cdv A outer s H0 vs Q E hr h => ?_)⟩
  · obtain ⟨v0, d0, r, rfl, r0, hm, hQ⟩ := h; rfl
  ·
    obtain ⟨v0, d0, r, rfl, r0, hm, hQ⟩ := h
    refine ⟨_, pss_cons (ps_ret (pe_tup (pa_cons (pe_fldk (K := K) (pv 0) (by rfl)) (pa_cons (pe_fldk (K := K) (pv 0) (by rfl)) (pa_cons (pe_fldk (K := K) (pv 0) (by rfl)) (pa_cons (pe_fldk (K := K) (pv 0) (by rfl)) (pa_cons (pe_fldk (K := K) (pv 0) (by rfl)) pa_nil))))))) pss_nil, ?_⟩
    have c0 : Chg ([] : List Addr) H0 H0 := Chg.refl H0
    unfold Mi.m_l_state at hm
    refine q_ret ?_
    refine w_tup ?_
    obtain ⟨u1, r2, kx3, ku4⟩ := fld_obj (n := 0) (f := "size") at0 (by decide +kernel) rfl T_Chart.cls (T_Chart.na "size" (by decide +kernel)) r0
    obtain ⟨_, rfl⟩ := r2
    obtain ⟨u5, r6, kx7, ku8⟩ := fld_obj (n := 1) (f := "depths") (atS at0) (by decide +kernel) rfl T_Chart.cls (T_Chart.na "depths" (by decide +kernel)) r0
    obtain ⟨u9, r10, kx11, ku12⟩ := fld_obj (n := 2) (f := "lanes") (atS (atS at0)) (by decide +kernel) rfl T_Chart.cls (T_Chart.na "lanes" (by decide +kernel)) r0
    obtain ⟨u13, r14, kx15, ku16⟩ := fld_obj (n := 3) (f := "tide") (atS (atS (atS at0))) (by decide +kernel) rfl T_Chart.cls (T_Chart.na "tide" (by decide +kernel)) r0
    obtain ⟨u17, r18, kx19, ku20⟩ := fld_obj (n := 4) (f := "harbours") (atS (atS (atS (atS at0)))) (by decide +kernel) rfl T_Chart.cls (T_Chart.na "harbours" (by decide +kernel)) r0
    refine w_args (va_cons (ku4 (val_var rfl)) (va_cons (ku8 (val_var rfl)) (va_cons (ku12 (val_var rfl)) (va_cons (ku16 (val_var rfl)) (va_cons (ku20 (val_var rfl)) va_nil))))) ?_
    refine e_tup (K := K) (ty := (sCons yInt (sCons (yTupL yInt) (sCons (yTupL (yTup (sCons yInt (sOne yInt)))) (sCons (yTupL yInt) (sOne (yTupL yInt))))))) (F := []) (d := (d0.1, d0.2.1, d0.2.2.1, d0.2.2.2.1, d0.2.2.2.2.1)) (by exact Nat.le_of_ble_eq_true rfl) ⟨_, _, _, _, rfl, rfl, yInt_i, ⟨_, _, _, _, rfl, rfl, r6, ⟨_, _, _, _, rfl, rfl, r10, ⟨_, _, _, _, rfl, rfl, r14, ⟨_, rfl, r18⟩⟩⟩⟩⟩ fun p21 H25 np24 c22 r23 => ?_
    have r0 := Ty.fz r0 c22
    have r6 := Ty.fz r6 c22
    have r10 := Ty.fz r10 c22
    have r14 := Ty.fz r14 c22
    have r18 := Ty.fz r18 c22
    have c0 := c0.trans c22.none
    obtain rfl := Option.some.inj hm
    exact hQ _ _ c0 r23 
abbrev s_l_wet : Stmt := topS 39
abbrev N_l_wet : List Str := ["_law_sea_here", "_law_deep", "_law_when", "_law_water"]
theorem sc_l_wet : FnScope ["_law_sea_here", "_law_deep", "_law_when", "_law_water"] ["_law_sea_here", "_law_deep", "_law_when"] (defScope s_l_wet) := ⟨rfl, rfl, rfl, by decide +kernel, rfl, by decide +kernel, by decide +kernel⟩
def sp_l_wet (K : PySem.W.Frag) : Sp := fun vs H Q _ => ∃ (v0 : V) (F0 : List Addr) (d0 : ((List Int) × (List (Int × Int)) × (List Int) × (List Int))) (d1 : Int) (d2 : Int) (r : (List Bool)), vs = [v0, (.int d1), (.int d2)] ∧ (yTup (sCons (yLst yInt) (sCons (yLst (yTup (sCons yInt (sOne yInt)))) (sCons (yLst yInt) (sOne (yLst yInt)))))).rep K H F0 v0 d0 ∧ Mi.m_l_wet d0 d1 d2 = some r ∧ ∀ v H' F, Chg ([]) H H' → (yLst yBool).rep K H' F v r → (∀ a ∈ F, H a = none) → Q v H'
theorem ok_l_wet (B : Bi mg) (CN : Cs K mg) (D : Dfn K mg "_law_wet" s_l_wet)  : Cal P w K mg "_law_wet" ["_law_sea_here", "_law_deep", "_law_when"] 1 (sp_l_wet K) := by
  obtain ⟨f, fd, F, g⟩ := D.ex
  refine ⟨f, fd, g, F.kp, bindsF F (fun _ _ _ _ _ _ us hl => match us, hl with | [_, _, _], _ => rfl), fun base => F.ok sc_l_wet (fun vs H Q E h => ?_) (fun cdv A outer s H0 vs Q E hr h => ?_)⟩
  · obtain ⟨v0, F0, d0, d1, d2, r, rfl, r0, hm, hQ⟩ := h; rfl
  ·
    obtain ⟨v0, F0, d0, d1, d2, r, rfl, r0, hm, hQ⟩ := h
    refine ⟨_, pss_cons (ps_ret (pe_lc (own := [("_law_water", 3)]) rfl sc_l_wet.nd (pi_list (pe_ix (ix_t (K := K)) (pv 0) pe_int (fun _ _ => rfl))) (blkOk_by (own := [("_law_water", 3)]) (N := N_l_wet) (sc := defScope s_l_wet) (by decide +kernel)) (fun _ _ _ _ _ => (pg_name (i := 3) sc_l_wet.nd rfl (.inl rfl))) (fun _ _ _ _ _ => pts_nil) (fun _ _ _ _ _ => (pe_cmpR op_ge (pe_op op_add (pv 3) (pe_ix (ix_l (K := K)) (pe_ix (ix_t (K := K)) (pv 0) pe_int (fun _ _ => rfl)) (pe_op op_mod (pe_callTy cl_int (by rfl) B.int (by decide +kernel) (pa_cons (pv 2) pa_nil)) (pe_callB (cl_len (K := K)) (by rfl) B.len PySem.boot_len (pa_cons (pe_ix (ix_t (K := K)) (pv 0) pe_int (fun _ _ => rfl)) pa_nil))) (fun _ _ => rfl))) (pv 1) (nomark _))))) pss_nil, ?_⟩
    have c0 : Chg ([] : List Addr) H0 H0 := Chg.refl H0
    unfold Mi.m_l_wet at hm
    refine q_ret ?_
    refine w_lc ?_
    refine w_iList ?_
    obtain ⟨u1, F2, r3, su4, kx5, ku6⟩ := itm_tup (n := 0) at0 r0
    refine c_val (ku6 (val_var rfl) val_c) ?_
    obtain ⟨e7, he7, hm⟩ := Mi.bnd hm
    refine kc_lst (K := K) (τ := yBool) r3 (fun D9 i H' => ∃ (s8 : (List Bool)), Chg ([] : List Addr) H0 H' ∧ (yTup (sCons (yLst yInt) (sCons (yLst (yTup (sCons yInt (sOne yInt)))) (sCons (yLst yInt) (sOne (yLst yInt)))))).rep K H' F0 v0 d0 ∧ (yLst yInt).rep K H' F2 u1 d0.1 ∧ (yLst yBool).rep K H' [D9] (.ref D9) s8 ∧ Dj F0 [D9] ∧ Dj F2 [D9] ∧ (∀ a ∈ [D9], H0 a = none) ∧ Mi.forN (Mi.m_l_wet_b1 d0 d1 d2) s8 (List.drop i d0.1) = some e7) (fun D9 H16 np15 c14 r10 => ⟨([] : (List Bool)), c0.trans c14.none, (Ty.ex r0 c14), (Ty.ex r3 c14), r10, Ty.nin r0 np15, Ty.nin r3 np15, one_fresh (c0.dom D9 np15), he7⟩) (fun D9 i H' hp => by obtain ⟨s8, c0, r0, r3, r10, d11, d12, n13, _⟩ := hp; exact r3) (fun D9 i19 x18 u21 H20 hx17 r22 hp => ?_) (fun D9 H' np15 hp => ?_)
    ·
      obtain ⟨s8, c0, r0, r3, r10, d11, d12, n13, hle7⟩ := hp
      obtain ⟨_, hbe7, hle7⟩ := Mi.forN_go hle7 hx17
      unfold Mi.m_l_wet_b1 at hbe7
      obtain ⟨_, rfl⟩ := r22
      refine g_name (σ' := [some v0, some (.int d1), some (.int d2), some (.int x18)]) rfl ?_
      refine ⟨rfl, ?_⟩
      refine w_yes ?_
      refine iteT ?_
      obtain ⟨u25, F26, r27, su28, kx29, ku30⟩ := itm_tup (n := 2) (atS (atS at0)) r0
      have d31 : Dj F26 [D9] := Dj.sub (d11) su28
      obtain ⟨u32, F33, r34, su35, kx36, ku37⟩ := itm_tup (n := 2) (atS (atS at0)) r0
      have d38 : Dj F33 [D9] := Dj.sub (d11) su35
      obtain ⟨x39, hx39, hbe7⟩ := Mi.bnd hbe7
      obtain ⟨x40, hx40, hbe7⟩ := Mi.bnd hbe7
      refine c_val (val_ge (val_add (val_var rfl) (itm_LI r27 hx40 (ku30 (val_var rfl) val_c) (val_mod (val_int (val_var rfl)) (val_lenL r34 (ku37 (val_var rfl) val_c)) hx39))) (val_var rfl)) ?_
      obtain ⟨x41, hx41, hbe7⟩ := Mi.bnd hbe7
      refine e_app r10 yBool_i hx41 fun H43 c42 r10 => ?_
      have r0 := Ty.chg r0 c42 d11
      have r3 := Ty.chg r3 c42 d12
      have c0 := c0.join c42 (fun a h => .inr (n13 a h))
      obtain rfl := Option.some.inj hbe7
      exact ⟨x41, c0, r0, r3, r10, d11, d12, n13, hle7⟩
    obtain ⟨s8, c0, r0, r3, r10, d11, d12, n13, hle7⟩ := hp
    obtain rfl := Mi.forN_end hle7
    obtain rfl := Option.some.inj hm
    exact hQ _ _ _ c0 r10 n13 
abbrev s_l_hours : Stmt := topS 40
abbrev N_l_hours : List Str := ["_law_sea_here", "_law_start", "_law_deep", "_law_first", "_law_stop", "_law_size", "_law_told", "_law_when", "_law_wet_here", "_law_here", "_law_place"]
theorem sc_l_hours : FnScope ["_law_sea_here", "_law_start", "_law_deep", "_law_first", "_law_stop", "_law_size", "_law_told", "_law_when", "_law_wet_here", "_law_here", "_law_place"] ["_law_sea_here", "_law_start", "_law_deep", "_law_first", "_law_stop"] (defScope s_l_hours) := ⟨rfl, rfl, rfl, by decide +kernel, rfl, by decide +kernel, by decide +kernel⟩
def sp_l_hours (K : PySem.W.Frag) : Sp := fun vs H Q _ => ∃ (v0 : V) (F0 : List Addr) (d0 : ((List Int) × (List (Int × Int)) × (List Int) × (List Int))) (d1 : Int) (d2 : Int) (d3 : Int) (d4 : Int) (r : (List (Option Int))), vs = [v0, (.int d1), (.int d2), (.int d3), (.int d4)] ∧ (yTup (sCons (yLst yInt) (sCons (yLst (yTup (sCons yInt (sOne yInt)))) (sCons (yLst yInt) (sOne (yLst yInt)))))).rep K H F0 v0 d0 ∧ Mi.m_l_hours d0 d1 d2 d3 d4 = some r ∧ ∀ v H' F, Chg ([]) H H' → (yLst (yOpt yInt)).rep K H' F v r → (∀ a ∈ F, H a = none) → Q v H'
theorem ok_l_hours (B : Bi mg) (CN : Cs K mg) (D : Dfn K mg "_law_hours" s_l_hours) (C_l_touches : Cal P w K mg "_law_touches" ["_law_sea_here", "_law_here", "_law_place"] 1 (sp_l_touches K)) (C_l_wet : Cal P w K mg "_law_wet" ["_law_sea_here", "_law_deep", "_law_when"] 1 (sp_l_wet K)) : Cal P w K mg "_law_hours" ["_law_sea_here", "_law_start", "_law_deep", "_law_first", "_law_stop"] 2 (sp_l_hours K) := by
  obtain ⟨f, fd, F, g⟩ := D.ex
  refine ⟨f, fd, g, F.kp, bindsF F (fun _ _ _ _ _ _ us hl => match us, hl with | [_, _, _, _, _], _ => rfl), fun base => F.ok sc_l_hours (fun vs H Q E h => ?_) (fun cdv A outer s H0 vs Q E hr h => ?_)⟩
  · obtain ⟨v0, F0, d0, d1, d2, d3, d4, r, rfl, r0, hm, hQ⟩ := h; rfl
  ·
    obtain ⟨v0, F0, d0, d1, d2, d3, d4, r, rfl, r0, hm, hQ⟩ := h
    refine ⟨_, pss_cons (ps_set (i := 5) sc_l_hours.nd rfl (.inl rfl) (pe_callB (cl_len (K := K)) (by rfl) B.len PySem.boot_len (pa_cons (pe_ix (ix_t (K := K)) (pv 0) pe_int (fun _ _ => rfl)) pa_nil)))
      (pss_cons (ps_set (i := 6) sc_l_hours.nd rfl (.inr rfl) (pe_lc (own := [("_law_place", 10)]) rfl sc_l_hours.nd (pi_range1 (by rfl) B.range (pa_cons (pv 5) pa_nil)) (blkOk_by (own := [("_law_place", 10)]) (N := N_l_hours) (sc := defScope s_l_hours) (by decide +kernel)) (fun _ _ _ _ _ => (pg_name (i := 10) sc_l_hours.nd rfl (.inl rfl))) (fun _ _ _ _ _ => pts_nil) (fun _ _ _ _ _ => pe_non)))
      (pss_cons (ps_asg (pv 3) (pg_sub (pv 6) (pv 1) set_list))
      (pss_cons (ps_for PassesOwn.never rfl (pi_range2 (by rfl) B.range (pa_cons (pv 3) (pa_cons (pv 4) pa_nil))) (pg_name (i := 7) sc_l_hours.nd rfl (.inl rfl)) (pss_cons (ps_set (i := 8) sc_l_hours.nd rfl (.inr rfl) (pe_cc C_l_wet hr (pa_cons (pv 0) (pa_cons (pv 2) (pa_cons (pv 7) pa_nil)))))
      (pss_cons (ps_setLc (i := 9) (own := [("_law_place", 10)]) rfl sc_l_hours.nd rfl rfl (sw_true rfl rfl rfl (by decide +kernel)) (pi_range1 (by rfl) B.range (pa_cons (pv 5) pa_nil)) (blkOk_by (own := [("_law_place", 10)]) (N := N_l_hours) (sc := defScope s_l_hours) (by decide +kernel)) (fun _ _ _ _ _ => (pg_name (i := 10) sc_l_hours.nd rfl (.inl rfl))) (fun _ _ _ _ _ => (pts_one (PW.pt (pw_and (pt_val (pe_ix (ix_l (K := K)) (pv 8) (pv 10) (fun _ _ => rfl))) (pw_and1 (pt_cmpR op_notN1 (pe_ix (ix_l (K := K)) (pv 6) (pv 10) (fun _ _ => rfl)) pe_non (nomark _))))))) (fun _ _ _ _ _ => (pv 10)))
      (pss_cons (ps_for PassesOwn.never rfl (pi_range1 (by rfl) B.range (pa_cons (pv 5) pa_nil)) (pg_name (i := 10) sc_l_hours.nd rfl (.inl rfl)) (pss_cons (ps_if (PW.pt (pw_and (pt_val (pe_ix (ix_l (K := K)) (pv 8) (pv 10) (fun _ _ => rfl))) (pw_and (pt_cmpR op_isN1 (pe_ix (ix_l (K := K)) (pv 6) (pv 10) (fun _ _ => rfl)) pe_non (nomark _)) (pw_and1 (pt_val (pe_cc C_l_touches hr (pa_cons (pv 0) (pa_cons (pv 9) (pa_cons (pv 10) pa_nil))))))))) (pss_cons (ps_asg (pe_op op_add (pv 7) pe_int) (pg_sub (pv 6) (pv 10) set_list))
      (pss_nil)) (pss_nil))
      (pss_nil)))
      (pss_nil)))))
      (pss_cons (ps_ret (pv 6)) pss_nil)))), ?_⟩
    have c0 : Chg ([] : List Addr) H0 H0 := Chg.refl H0
    unfold Mi.m_l_hours at hm
    obtain ⟨u1, F2, r3, su4, kx5, ku6⟩ := itm_tup (n := 0) at0 r0
    obtain ⟨size7, hsize7, hm⟩ := Mi.letE hm
    refine q_setE (val_lenL r3 (ku6 (val_var rfl) val_c)) (congrArg V.int hsize7) (σ' := [some v0, some (.int d1), some (.int d2), some (.int d3), some (.int d4), some (.int size7), none, none, none, none, none]) rfl ?_
    refine q_asg ?_
    refine w_lc ?_
    refine w_iRng1 ?_
    refine w_args (va_cons (val_var rfl) va_nil) ?_
    obtain ⟨g8, hg8, hm⟩ := Mi.bnd hm
    obtain ⟨e9, he9, hm⟩ := Mi.bnd hm
    refine kc_rng1 (K := K) (τ := (yOpt yInt)) hg8 (fun D11 i H' => ∃ (s10 : (List (Option Int))), Chg ([] : List Addr) H0 H' ∧ (yTup (sCons (yLst yInt) (sCons (yLst (yTup (sCons yInt (sOne yInt)))) (sCons (yLst yInt) (sOne (yLst yInt)))))).rep K H' F0 v0 d0 ∧ (yLst (yOpt yInt)).rep K H' [D11] (.ref D11) s10 ∧ Dj F0 [D11] ∧ (∀ a ∈ [D11], H0 a = none) ∧ Mi.forN (Mi.m_l_hours_b1) s10 (List.drop i g8) = some e9) (fun D11 H17 np16 c15 r12 => ⟨([] : (List (Option Int))), c0.trans c15.none, (Ty.ex r0 c15), r12, Ty.nin r0 np16, one_fresh (c0.dom D11 np16), he9⟩) (fun D11 i20 x19 H21 hx18 hp => ?_) (fun D11 H' np16 hp => ?_)
    ·
      obtain ⟨s10, c0, r0, r12, d13, n14, hle9⟩ := hp
      obtain ⟨_, hbe9, hle9⟩ := Mi.forN_go hle9 hx18
      unfold Mi.m_l_hours_b1 at hbe9
      refine g_name (σ' := [some v0, some (.int d1), some (.int d2), some (.int d3), some (.int d4), some (.int size7), none, none, none, none, some (.int x19)]) rfl ?_
      refine ⟨rfl, ?_⟩
      refine w_yes ?_
      refine iteT ?_
      refine c_val val_c ?_
      obtain ⟨x26, hx26, hbe9⟩ := Mi.bnd hbe9
      refine e_app r12 opt_n hx26 fun H28 c27 r12 => ?_
      have r0 := Ty.chg r0 c27 d13
      have c0 := c0.join c27 (fun a h => .inr (n14 a h))
      obtain rfl := Option.some.inj hbe9
      exact ⟨x26, c0, r0, r12, d13, n14, hle9⟩
    obtain ⟨s10, c0, r0, r12, d13, n14, hle9⟩ := hp
    obtain rfl := Mi.forN_end hle9
    refine g_name (σ' := [some v0, some (.int d1), some (.int d2), some (.int d3), some (.int d4), some (.int size7), some (.ref D11), none, none, none, none]) rfl ?_
    refine q_asg ?_
    refine c_val (val_var rfl) ?_
    refine w_gsub ?_
    refine c_val (val_var rfl) ?_
    refine c_val (val_var rfl) ?_
    obtain ⟨x29, hx29, hm⟩ := Mi.bnd hm
    refine m_set r12 (opt_i nn_int yInt_i) hx29 fun H31 c30 r12 => ?_
    have r0 := Ty.chg r0 c30 d13
    have c0 := c0.join c30 (fun a h => .inr (n14 a h))
    refine q_for ?_
    refine w_iRng2 ?_
    refine w_args (va_cons (val_var rfl) (va_cons (val_var rfl) va_nil)) ?_
    obtain ⟨g32, hg32, hm⟩ := Mi.bnd hm
    obtain ⟨e33, he33, hm⟩ := Mi.bnd hm
    refine l_rng2 hg32 (fun i σ' H' => ∃ (s34 : (List (Option Int))) (y35 : Option V) (y36 : Option V) (y37 : Option V) (y38 : Option V), σ' = [some v0, some (.int d1), some (.int d2), some (.int d3), some (.int d4), some (.int size7), some (.ref D11), y35, y36, y37, y38] ∧ Chg ([] : List Addr) H0 H' ∧ (yTup (sCons (yLst yInt) (sCons (yLst (yTup (sCons yInt (sOne yInt)))) (sCons (yLst yInt) (sOne (yLst yInt)))))).rep K H' F0 v0 d0 ∧ (yLst (yOpt yInt)).rep K H' [D11] (.ref D11) s34 ∧ Mi.forN (Mi.m_l_hours_b2 d0 d2 size7) s34 (List.drop i g32) = some e33) ⟨x29, none, none, none, none, rfl, c0, r0, r12, he33⟩ (fun i41 x40 σ' H' hx39 hp => ?_) (fun σ' H' hp => ?_)
    ·
      obtain ⟨s34, y35, y36, y37, y38, rfl, c0, r0, r12, hle33⟩ := hp
      obtain ⟨_, hbe33, hle33⟩ := Mi.forN_go hle33 hx39
      unfold Mi.m_l_hours_b2 at hbe33
      refine g_name (σ' := [some v0, some (.int d1), some (.int d2), some (.int d3), some (.int d4), some (.int size7), some (.ref D11), some (.int x40), y36, y37, y38]) rfl ?_
      refine q_asg ?_
      refine w_call ?_
      refine w_args (va_cons (val_var rfl) (va_cons (val_var rfl) (va_cons (val_var rfl) va_nil))) ?_
      obtain ⟨q42, hq42, hbe33⟩ := Mi.bnd hbe33
      refine ⟨v0, F0, d0, d2, x40, q42, rfl, r0, hq42, fun v45 H44 F47 c43 r46 fr48  => ?_⟩
      have d49 : Dj F0 F47 := Ty.fresh r0 fr48
      have d50 : Dj [D11] F47 := Ty.fresh r12 fr48
      have n51 : ∀ a ∈ F47, H0 a = none := fun a h => c0.dom a (fr48 a h)
      have r0 := Ty.ex r0 c43
      have r12 := Ty.ex r12 c43
      have c0 := c0.trans c43.none
      refine g_name (σ' := [some v0, some (.int d1), some (.int d2), some (.int d3), some (.int d4), some (.int size7), some (.ref D11), some (.int x40), some v45, y37, y38]) rfl ?_
      refine q_asg ?_
      refine w_lc ?_
      refine w_iRng1 ?_
      refine w_args (va_cons (val_var rfl) va_nil) ?_
      obtain ⟨g52, hg52, hbe33⟩ := Mi.bnd hbe33
      obtain ⟨e53, he53, hbe33⟩ := Mi.bnd hbe33
      refine kc_rng1 (K := K) (τ := yInt) hg52 (fun D55 i H' => ∃ (s54 : (List Int)), Chg ([] : List Addr) H0 H' ∧ (yTup (sCons (yLst yInt) (sCons (yLst (yTup (sCons yInt (sOne yInt)))) (sCons (yLst yInt) (sOne (yLst yInt)))))).rep K H' F0 v0 d0 ∧ (yLst (yOpt yInt)).rep K H' [D11] (.ref D11) s34 ∧ (yLst yBool).rep K H' F47 v45 q42 ∧ (yLst yInt).rep K H' [D55] (.ref D55) s54 ∧ Dj F0 [D55] ∧ Dj [D11] [D55] ∧ Dj F47 [D55] ∧ (∀ a ∈ [D55], H0 a = none) ∧ Mi.forN (Mi.m_l_hours_b3 s34 q42) s54 (List.drop i g52) = some e53) (fun D55 H63 np62 c61 r56 => ⟨([] : (List Int)), c0.trans c61.none, (Ty.ex r0 c61), (Ty.ex r12 c61), (Ty.ex r46 c61), r56, Ty.nin r0 np62, Ty.nin r12 np62, Ty.nin r46 np62, one_fresh (c0.dom D55 np62), he53⟩) (fun D55 i66 x65 H67 hx64 hp => ?_) (fun D55 H' np62 hp => ?_)
      ·
        obtain ⟨s54, c0, r0, r12, r46, r56, d57, d58, d59, n60, hle53⟩ := hp
        obtain ⟨_, hbe53, hle53⟩ := Mi.forN_go hle53 hx64
        unfold Mi.m_l_hours_b3 at hbe53
        refine g_name (σ' := [some v0, some (.int d1), some (.int d2), some (.int d3), some (.int d4), some (.int size7), some (.ref D11), some (.int x40), some v45, y37, some (.int x65)]) rfl ?_
        refine ⟨rfl, ?_⟩
        obtain ⟨x72, hx72, hbe53⟩ := Mi.bnd hbe53
        obtain ⟨u73, r74, ku75⟩ := itm_L r46 hx72
        obtain ⟨_, rfl⟩ := r74
        obtain ⟨b81, hb81, hbe53⟩ := Mi.bnd hbe53
        refine c_ans (ans_andO (ans_B (ku75 (val_var rfl) (val_var rfl))) hb81 (fun hs76 => by (obtain ⟨x77, hx77, hs76⟩ := Mi.bnd hs76; obtain ⟨u78, r79, ku80⟩ := itm_L r12 hx77; cases hs76; exact (ans_t (val_notN r79 (ku80 (val_var rfl) (val_var rfl))))))) ?_
        refine c_if (fun hb => ?_) (fun hb => ?_)
        ·
          replace hbe53 := Mi.ifT hb hbe53
          refine c_val (val_var rfl) ?_
          obtain ⟨x82, hx82, hbe53⟩ := Mi.bnd hbe53
          refine e_app r56 yInt_i hx82 fun H84 c83 r56 => ?_
          have r0 := Ty.chg r0 c83 d57
          have r12 := Ty.chg r12 c83 d58
          have r46 := Ty.chg r46 c83 d59
          have c0 := c0.join c83 (fun a h => .inr (n60 a h))
          obtain rfl := Option.some.inj hbe53
          exact ⟨x82, c0, r0, r12, r46, r56, d57, d58, d59, n60, hle53⟩
        ·
          replace hbe53 := Mi.ifF hb hbe53
          obtain rfl := Option.some.inj hbe53
          exact ⟨s54, c0, r0, r12, r46, r56, d57, d58, d59, n60, hle53⟩
      obtain ⟨s54, c0, r0, r12, r46, r56, d57, d58, d59, n60, hle53⟩ := hp
      obtain rfl := Mi.forN_end hle53
      refine g_name (σ' := [some v0, some (.int d1), some (.int d2), some (.int d3), some (.int d4), some (.int size7), some (.ref D11), some (.int x40), some v45, some (.ref D55), y38]) rfl ?_
      refine q_for ?_
      refine w_iRng1 ?_
      refine w_args (va_cons (val_var rfl) va_nil) ?_
      obtain ⟨g85, hg85, hbe33⟩ := Mi.bnd hbe33
      obtain ⟨e86, he86, hbe33⟩ := Mi.bnd hbe33
      refine l_rng1 hg85 (fun i σ' H' => ∃ (s87 : (List (Option Int))) (y88 : Option V), σ' = [some v0, some (.int d1), some (.int d2), some (.int d3), some (.int d4), some (.int size7), some (.ref D11), some (.int x40), some v45, some (.ref D55), y88] ∧ Chg ([] : List Addr) H0 H' ∧ (yTup (sCons (yLst yInt) (sCons (yLst (yTup (sCons yInt (sOne yInt)))) (sCons (yLst yInt) (sOne (yLst yInt)))))).rep K H' F0 v0 d0 ∧ (yLst (yOpt yInt)).rep K H' [D11] (.ref D11) s87 ∧ (yLst yBool).rep K H' F47 v45 q42 ∧ (yLst yInt).rep K H' [D55] (.ref D55) s54 ∧ Mi.forN (Mi.m_l_hours_b4 d0 x40 q42 s54) s87 (List.drop i g85) = some e86) ⟨s34, y38, rfl, c0, r0, r12, r46, r56, he86⟩ (fun i91 x90 σ' H' hx89 hp => ?_) (fun σ' H' hp => ?_)
      ·
        obtain ⟨s87, y88, rfl, c0, r0, r12, r46, r56, hle86⟩ := hp
        obtain ⟨_, hbe86, hle86⟩ := Mi.forN_go hle86 hx89
        unfold Mi.m_l_hours_b4 at hbe86
        refine g_name (σ' := [some v0, some (.int d1), some (.int d2), some (.int d3), some (.int d4), some (.int size7), some (.ref D11), some (.int x40), some v45, some (.ref D55), some (.int x90)]) rfl ?_
        obtain ⟨s92, hs92, hbe86⟩ := Mi.bnd hbe86
        refine s_join (R := fun σ' H' => σ' = [some v0, some (.int d1), some (.int d2), some (.int d3), some (.int d4), some (.int size7), some (.ref D11), some (.int x40), some v45, some (.ref D55), some (.int x90)] ∧ Chg ([] : List Addr) H0 H' ∧ (yTup (sCons (yLst yInt) (sCons (yLst (yTup (sCons yInt (sOne yInt)))) (sCons (yLst yInt) (sOne (yLst yInt)))))).rep K H' F0 v0 d0 ∧ (yLst (yOpt yInt)).rep K H' [D11] (.ref D11) s92 ∧ (yLst yBool).rep K H' F47 v45 q42 ∧ (yLst yInt).rep K H' [D55] (.ref D55) s54) (fun nx kx => ?_) (fun σ' H' hj => ?_)
        ·
          refine w_ifS ?_
          obtain ⟨b93, hb93, hs92⟩ := Mi.bnd hs92
          refine j_tt b93 (R := fun H' => Chg ([] : List Addr) H0 H' ∧ (yTup (sCons (yLst yInt) (sCons (yLst (yTup (sCons yInt (sOne yInt)))) (sCons (yLst yInt) (sOne (yLst yInt)))))).rep K H' F0 v0 d0 ∧ (yLst (yOpt yInt)).rep K H' [D11] (.ref D11) s87 ∧ (yLst yBool).rep K H' F47 v45 q42 ∧ (yLst yInt).rep K H' [D55] (.ref D55) s54) (fun Q' kq => ?_) (fun H' hj => ?_)
          ·
            refine w_and ?_
            obtain ⟨x94, hx94, hb93⟩ := Mi.bnd hb93
            obtain ⟨u95, r96, ku97⟩ := itm_L r46 hx94
            obtain ⟨_, rfl⟩ := r96
            refine c_ans (ans_B (ku97 (val_var rfl) (val_var rfl))) ?_
            refine c_if (fun hb => ?_) (fun hb => ?_)
            rotate_left
            ·
              replace hb93 := Mi.ifF hb hb93
              obtain rfl := Option.some.inj hb93
              exact kq _ ⟨c0, r0, r12, r46, r56⟩
            replace hb93 := Mi.ifT hb hb93
            refine w_and ?_
            obtain ⟨x98, hx98, hb93⟩ := Mi.bnd hb93
            obtain ⟨u99, r100, ku101⟩ := itm_L r12 hx98
            refine c_ans (ans_t (val_isN r100 (ku101 (val_var rfl) (val_var rfl)))) ?_
            refine c_if (fun hb => ?_) (fun hb => ?_)
            rotate_left
            ·
              replace hb93 := Mi.ifF hb hb93
              obtain rfl := Option.some.inj hb93
              exact kq _ ⟨c0, r0, r12, r46, r56⟩
            replace hb93 := Mi.ifT hb hb93
            refine w_B ?_
            refine w_call ?_
            refine w_args (va_cons (val_var rfl) (va_cons (val_var rfl) (va_cons (val_var rfl) va_nil))) ?_
            obtain ⟨q102, hq102, hb93⟩ := Mi.bnd hb93
            refine ⟨v0, F0, d0, (.ref D55), [D55], s54, x90, q102, rfl, r0, r56, hq102, fun H104 c103  => ?_⟩
            have r0 := Ty.ex r0 c103
            have r12 := Ty.ex r12 c103
            have r46 := Ty.ex r46 c103
            have r56 := Ty.ex r56 c103
            have c0 := c0.trans c103.none
            refine ⟨_, rfl, ?_⟩
            obtain rfl := Option.some.inj hb93
            exact kq _ ⟨c0, r0, r12, r46, r56⟩
          obtain ⟨c0, r0, r12, r46, r56⟩ := hj
          refine c_if (fun hb => ?_) (fun hb => ?_)
          ·
            replace hs92 := Mi.ifT hb hs92
            refine q_asg ?_
            refine c_val (val_add (val_var rfl) val_c) ?_
            refine w_gsub ?_
            refine c_val (val_var rfl) ?_
            refine c_val (val_var rfl) ?_
            obtain ⟨x105, hx105, hs92⟩ := Mi.bnd hs92
            refine m_set r12 (opt_i nn_int yInt_i) hx105 fun H107 c106 r12 => ?_
            have r0 := Ty.chg r0 c106 d13
            have r46 := Ty.chg r46 c106 d50.symm
            have r56 := Ty.chg r56 c106 d58.symm
            have c0 := c0.join c106 (fun a h => .inr (n14 a h))
            refine w_nextJ ?_
            obtain rfl := Option.some.inj hs92
            exact kx _ _ ⟨rfl, c0, r0, r12, r46, r56⟩
          ·
            replace hs92 := Mi.ifF hb hs92
            refine w_nextJ ?_
            obtain rfl := Option.some.inj hs92
            exact kx _ _ ⟨rfl, c0, r0, r12, r46, r56⟩
        obtain ⟨rfl, c0, r0, r12, r46, r56⟩ := hj
        refine w_nextJ ?_
        obtain rfl := Option.some.inj hbe86
        exact ⟨_, (some (.int x90)), rfl, c0, r0, r12, r46, r56, hle86⟩
      obtain ⟨s87, y88, rfl, c0, r0, r12, r46, r56, hle86⟩ := hp
      obtain rfl := Mi.forN_end hle86
      refine w_nextJ ?_
      obtain rfl := Option.some.inj hbe33
      exact ⟨_, (some (.int x40)), (some v45), (some (.ref D55)), y88, rfl, c0, r0, r12, hle33⟩
    obtain ⟨s34, y35, y36, y37, y38, rfl, c0, r0, r12, hle33⟩ := hp
    obtain rfl := Mi.forN_end hle33
    refine q_ret ?_
    refine c_val (val_var rfl) ?_
    obtain rfl := Option.some.inj hm
    exact hQ _ _ _ c0 r12 n14 
abbrev s_l_same : Stmt := topS 41
abbrev N_l_same : List Str := ["_law_told", "_law_due", "_law_k"]
theorem sc_l_same : FnScope ["_law_told", "_law_due", "_law_k"] ["_law_told", "_law_due"] (defScope s_l_same) := ⟨rfl, rfl, rfl, by decide +kernel, rfl, by decide +kernel, by decide +kernel⟩
def sp_l_same (K : PySem.W.Frag) : Sp := fun vs H Q _ => ∃ (v0 : V) (F0 : List Addr) (d0 : (List (Option Int))) (v1 : V) (F1 : List Addr) (d1 : (List (Option Int))) (r : Bool), vs = [v0, v1] ∧ (yLst (yOpt yInt)).rep K H F0 v0 d0 ∧ (yLst (yOpt yInt)).rep K H F1 v1 d1 ∧ Mi.m_l_same d0 d1 = some r ∧ ∀ H', Chg ([]) H H' → Q (.bl r) H'
theorem ok_l_same (B : Bi mg) (CN : Cs K mg) (D : Dfn K mg "_law_same" s_l_same) (C_l_int : Cal P w K mg "_law_int" ["_law_x"] 1 (sp_l_int K)) : Cal P w K mg "_law_same" ["_law_told", "_law_due"] 2 (sp_l_same K) := by
  obtain ⟨f, fd, F, g⟩ := D.ex
  refine ⟨f, fd, g, F.kp, bindsF F (fun _ _ _ _ _ _ us hl => match us, hl with | [_, _], _ => rfl), fun base => F.ok sc_l_same (fun vs H Q E h => ?_) (fun cdv A outer s H0 vs Q E hr h => ?_)⟩
  · obtain ⟨v0, F0, d0, v1, F1, d1, r, rfl, r0, r1, hm, hQ⟩ := h; rfl
  ·
    obtain ⟨v0, F0, d0, v1, F1, d1, r, rfl, r0, r1, hm, hQ⟩ := h
    refine ⟨_, pss_cons (ps_if (PW.pt (pw_or (pt_not (pt_val (pe_callB (cl_isi (K := K)) (by rfl) B.isinstance (by decide +kernel) (pa_cons (pv 0) (pa_cons (pe_bltn (v := .ty "list") (by rfl) B.list (by decide +kernel) rfl) pa_nil))))) (pw_or1 (pt_cmpR op_ne (pe_callB (cl_len (K := K)) (by rfl) B.len PySem.boot_len (pa_cons (pv 0) pa_nil)) (pe_callB (cl_len (K := K)) (by rfl) B.len PySem.boot_len (pa_cons (pv 1) pa_nil)) (nomark _))))) (pss_cons (ps_ret pe_bl) pss_nil) (pss_nil))
      (pss_cons (ps_for PassesOwn.never rfl (pi_range1 (by rfl) B.range (pa_cons (pe_callB (cl_len (K := K)) (by rfl) B.len PySem.boot_len (pa_cons (pv 1) pa_nil)) pa_nil)) (pg_name (i := 2) sc_l_same.nd rfl (.inl rfl)) (pss_cons (ps_if (PW.pt (pw_and (pt_cmpR op_isN1 (pe_ix (ix_l (K := K)) (pv 1) (pv 2) (fun _ _ => rfl)) pe_non (nomark _)) (pw_and1 (pt_cmpR op_notN1 (pe_ix (ix_l (K := K)) (pv 0) (pv 2) (fun _ _ => rfl)) pe_non (nomark _))))) (pss_cons (ps_ret pe_bl) pss_nil) (pss_nil))
      (pss_cons (ps_if (PW.pt (pw_and (pt_cmpR op_notN1 (pe_ix (ix_l (K := K)) (pv 1) (pv 2) (fun _ _ => rfl)) pe_non (nomark _)) (pw_and1 (PW.pt (pw_or (pt_not (pt_val (pe_cc C_l_int hr (pa_cons (pe_ix (ix_l (K := K)) (pv 0) (pv 2) (fun _ _ => rfl)) pa_nil)))) (pw_or1 (pt_cmpR op_ne (pe_ix (ix_l (K := K)) (pv 0) (pv 2) (fun _ _ => rfl)) (pe_ix (ix_l (K := K)) (pv 1) (pv 2) (fun _ _ => rfl)) (nomark _)))))))) (pss_cons (ps_ret pe_bl) pss_nil) (pss_nil))
      (pss_nil))))
      (pss_cons (ps_ret pe_bl) pss_nil)), ?_⟩
    have c0 : Chg ([] : List Addr) H0 H0 := Chg.refl H0
    unfold Mi.m_l_same at hm
    refine q_if (ans_orB (ans_N (ans_B (val_isi (val_var rfl) (ty_lst r0) (n := "list") (m := "list") (b := true) (by decide +kernel)))) (fun _ => (ans_t (val_neI (val_lenL r0 (val_var rfl)) (val_lenL r1 (val_var rfl)))))) (fun hb => ?_) (fun hb => ?_)
    ·
      replace hm := Mi.ifT hb hm
      refine q_ret ?_
      refine c_val val_c ?_
      obtain rfl := Option.some.inj hm
      exact hQ _ c0 
    replace hm := Mi.ifF hb hm
    refine w_fall ?_
    refine q_for ?_
    refine w_iRng1 ?_
    refine w_args (va_cons (val_lenL r1 (val_var rfl)) va_nil) ?_
    obtain ⟨g2, hg2, hm⟩ := Mi.bnd hm
    obtain ⟨e3, he3, hm⟩ := Mi.bnd hm
    refine l_rng1 hg2 (fun i σ' H' => ∃ (s4 : Unit) (y5 : Option V), σ' = [some v0, some v1, y5] ∧ Chg ([] : List Addr) H0 H' ∧ (yLst (yOpt yInt)).rep K H' F0 v0 d0 ∧ (yLst (yOpt yInt)).rep K H' F1 v1 d1 ∧ Mi.forR (Mi.m_l_same_b1 d0 d1) s4 (List.drop i g2) = some e3) ⟨(), none, rfl, c0, r0, r1, he3⟩ (fun i8 x7 σ' H' hx6 hp => ?_) (fun σ' H' hp => ?_)
    ·
      obtain ⟨s4, y5, rfl, c0, r0, r1, hle3⟩ := hp
      obtain ⟨o9, hbe3, hore3⟩ := Mi.forR_go hle3 hx6
      unfold Mi.m_l_same_b1 at hbe3
      refine g_name (σ' := [some v0, some v1, some (.int x7)]) rfl ?_
      obtain ⟨x10, hx10, hbe3⟩ := Mi.bnd hbe3
      obtain ⟨u11, r12, ku13⟩ := itm_L r1 hx10
      obtain ⟨b19, hb19, hbe3⟩ := Mi.bnd hbe3
      refine q_if (ans_andO (ans_t (val_isN r12 (ku13 (val_var rfl) (val_var rfl)))) hb19 (fun hs14 => by (obtain ⟨x15, hx15, hs14⟩ := Mi.bnd hs14; obtain ⟨u16, r17, ku18⟩ := itm_L r0 hx15; cases hs14; exact (ans_t (val_notN r17 (ku18 (val_var rfl) (val_var rfl))))))) (fun hb => ?_) (fun hb => ?_)
      ·
        replace hbe3 := Mi.ifT hb hbe3
        refine q_ret ?_
        refine c_val val_c ?_
        obtain rfl := Option.some.inj hbe3
        obtain rfl := Mi.or_inl hore3
        obtain rfl := Option.some.inj (Mi.orR_inl hm)
        exact hQ _ c0 
      replace hbe3 := Mi.ifF hb hbe3
      refine w_fall ?_
      refine q_ifS ?_
      obtain ⟨b20, hb20, hbe3⟩ := Mi.bnd hbe3
      refine j_tt b20 (R := fun H' => Chg ([] : List Addr) H0 H' ∧ (yLst (yOpt yInt)).rep K H' F0 v0 d0 ∧ (yLst (yOpt yInt)).rep K H' F1 v1 d1) (fun Q' kq => ?_) (fun H' hj => ?_)
      ·
        refine w_and ?_
        obtain ⟨x21, hx21, hb20⟩ := Mi.bnd hb20
        obtain ⟨u22, r23, ku24⟩ := itm_L r1 hx21
        refine c_ans (ans_t (val_notN r23 (ku24 (val_var rfl) (val_var rfl)))) ?_
        refine c_if (fun hb => ?_) (fun hb => ?_)
        rotate_left
        ·
          replace hb20 := Mi.ifF hb hb20
          obtain rfl := Option.some.inj hb20
          exact kq _ ⟨c0, r0, r1⟩
        replace hb20 := Mi.ifT hb hb20
        obtain ⟨b25, hb25, hb20⟩ := Mi.bnd hb20
        refine j_tt b25 (R := fun H' => Chg ([] : List Addr) H0 H' ∧ (yLst (yOpt yInt)).rep K H' F0 v0 d0 ∧ (yLst (yOpt yInt)).rep K H' F1 v1 d1) (fun Q' kq => ?_) (fun H' hj => ?_)
        ·
          refine w_or ?_
          refine w_not ?_
          refine w_B ?_
          refine w_call ?_
          obtain ⟨x26, hx26, hb25⟩ := Mi.bnd hb25
          obtain ⟨u27, r28, ku29⟩ := itm_L r0 hx26
          refine w_args (va_cons (ku29 (val_var rfl) (val_var rfl)) va_nil) ?_
          obtain ⟨q30, hq30, hb25⟩ := Mi.bnd hb25
          refine Or.inr (⟨u27, x26, q30, rfl, r28, hq30, fun H32 c31  => ?_⟩)
          have r0 := Ty.ex r0 c31
          have r1 := Ty.ex r1 c31
          have c0 := c0.trans c31.none
          refine ⟨_, rfl, ?_⟩
          refine c_if (fun hb => ?_) (fun hb => ?_)
          ·
            replace hb25 := Mi.ifT hb hb25
            obtain rfl := Option.some.inj hb25
            exact kq _ ⟨c0, r0, r1⟩
          replace hb25 := Mi.ifF hb hb25
          obtain ⟨x33, hx33, hb25⟩ := Mi.bnd hb25
          obtain ⟨u34, r35, ku36⟩ := itm_L r0 hx33
          obtain ⟨x37, hx37, hb25⟩ := Mi.bnd hb25
          obtain ⟨u38, r39, ku40⟩ := itm_L r1 hx37
          obtain ⟨x41, hx41, hb25⟩ := Mi.bnd hb25
          obtain ⟨_, rfl⟩ := opt_int r35 hx41
          obtain ⟨x42, hx42, hb25⟩ := Mi.bnd hb25
          obtain ⟨_, rfl⟩ := opt_int r39 hx42
          refine c_ans (ans_t (val_neI (ku36 (val_var rfl) (val_var rfl)) (ku40 (val_var rfl) (val_var rfl)))) ?_
          obtain rfl := Option.some.inj hb25
          exact kq _ ⟨c0, r0, r1⟩
        obtain ⟨c0, r0, r1⟩ := hj
        obtain rfl := Option.some.inj hb20
        exact kq _ ⟨c0, r0, r1⟩
      obtain ⟨c0, r0, r1⟩ := hj
      refine c_if (fun hb => ?_) (fun hb => ?_)
      ·
        replace hbe3 := Mi.ifT hb hbe3
        refine q_ret ?_
        refine c_val val_c ?_
        obtain rfl := Option.some.inj hbe3
        obtain rfl := Mi.or_inl hore3
        obtain rfl := Option.some.inj (Mi.orR_inl hm)
        exact hQ _ c0 
      replace hbe3 := Mi.ifF hb hbe3
      refine w_fall ?_
      refine w_nextJ ?_
      obtain rfl := Option.some.inj hbe3
      replace hore3 := Mi.or_inr hore3
      exact ⟨_, (some (.int x7)), rfl, c0, r0, r1, hore3⟩
    obtain ⟨s4, y5, rfl, c0, r0, r1, hle3⟩ := hp
    obtain rfl := Mi.forR_end hle3
    replace hm := Mi.orR_inr hm
    refine q_ret ?_
    refine c_val val_c ?_
    obtain rfl := Option.some.inj hm
    exact hQ _ c0 
abbrev s_l_left_out : Stmt := topS 42
abbrev N_l_left_out : List Str := ["_law_chart_here", "_law_sea_here", "_law_start", "_law_deep", "_law_first", "_law_early"]
theorem sc_l_left_out : FnScope ["_law_chart_here", "_law_sea_here", "_law_start", "_law_deep", "_law_first", "_law_early"] ["_law_chart_here", "_law_sea_here", "_law_start", "_law_deep", "_law_first"] (defScope s_l_left_out) := ⟨rfl, rfl, rfl, by decide +kernel, rfl, by decide +kernel, by decide +kernel⟩
def sp_l_left_out (K : PySem.W.Frag) (C_Chart : Addr) : Sp := fun vs H Q _ => ∃ (v0 : V) (d0 : (Int × (List Int) × (List (Int × Int)) × (List Int) × (List Int) × (List (List Int)))) (v1 : V) (F1 : List Addr) (d1 : ((List Int) × (List (Int × Int)) × (List Int) × (List Int))) (d2 : Int) (d3 : Int) (d4 : Int) (r : Bool), vs = [v0, v1, (.int d2), (.int d3), (.int d4)] ∧ (yObj C_Chart nm_Chart ty_Chart).rep K H [] v0 d0 ∧ (yTup (sCons (yLst yInt) (sCons (yLst (yTup (sCons yInt (sOne yInt)))) (sCons (yLst yInt) (sOne (yLst yInt)))))).rep K H F1 v1 d1 ∧ Mi.m_l_left_out d0 d1 d2 d3 d4 = some r ∧ ∀ H', Chg ([]) H H' → Q (.bl r) H'
theorem ok_l_left_out (B : Bi mg) (CN : Cs K mg) (D : Dfn K mg "_law_left_out" s_l_left_out) {C_Chart : Addr} (T_Chart : Tx K mg C_Chart "Chart" nm_Chart) (C_arrivals : CalD P w K mg "arrivals" s_arrivals dv_arrivals ["chart", "start", "draught", "hour", "last"] 4 (sp_arrivals K C_Chart)) (C_l_hours : Cal P w K mg "_law_hours" ["_law_sea_here", "_law_start", "_law_deep", "_law_first", "_law_stop"] 2 (sp_l_hours K)) (C_l_same : Cal P w K mg "_law_same" ["_law_told", "_law_due"] 2 (sp_l_same K)) : Cal P w K mg "_law_left_out" ["_law_chart_here", "_law_sea_here", "_law_start", "_law_deep", "_law_first"] 5 (sp_l_left_out K C_Chart) := by
  obtain ⟨f, fd, F, g⟩ := D.ex
  refine ⟨f, fd, g, F.kp, bindsF F (fun _ _ _ _ _ _ us hl => match us, hl with | [_, _, _, _, _], _ => rfl), fun base => F.ok sc_l_left_out (fun vs H Q E h => ?_) (fun cdv A outer s H0 vs Q E hr h => ?_)⟩
  · obtain ⟨v0, d0, v1, F1, d1, d2, d3, d4, r, rfl, r0, r1, hm, hQ⟩ := h; rfl
  ·
    obtain ⟨v0, d0, v1, F1, d1, d2, d3, d4, r, rfl, r0, r1, hm, hQ⟩ := h
    obtain ⟨fC_arrivals, fdC_arrivals, gC_arrivals, FC_arrivals, OC_arrivals⟩ := C_arrivals.ex
    obtain ⟨ds_kf_arrivals_2_, vl_kf_arrivals_2_, kf_arrivals_2_⟩ := FunD.binds1 (ps := ["chart", "start", "draught", "hour", "last"]) FC_arrivals 2 0 (by intro z; cases z) rfl (fun _ _ _ _ _ _ _ us its h1 h2 => match us, its, h1, h2 with | [_, _], [_, _, _], _, _ => ⟨_, rfl, rfl⟩)
    obtain ⟨mv_kf_arrivals_2_last_draught, kf_arrivals_2_last_draught⟩ := FunD.kbindsD (ps := ["chart", "start", "draught", "hour", "last"]) FC_arrivals 2 ["last", "draught"] (fun us mv ws => permG [0, 1, 6, 3, 5] us mv ws) (by intro z; cases z) (fun r1 r2 r3 => permG_rel _ r1 r2 r3) (fun _ _ _ _ _ _ _ us mv ws h1 h2 h3 => match us, mv, ws, h1, h2, h3 with | [_, _], [_, _, _], [_, _], _, _, _ => ⟨_, rfl, rfl⟩)
    obtain ⟨ds_kf_arrivals_3_, vl_kf_arrivals_3_, kf_arrivals_3_⟩ := FunD.binds1 (ps := ["chart", "start", "draught", "hour", "last"]) FC_arrivals 3 1 (by intro z; cases z) rfl (fun _ _ _ _ _ _ _ us its h1 h2 => match us, its, h1, h2 with | [_, _, _], [_, _, _], _, _ => ⟨_, rfl, rfl⟩)
    obtain ⟨ds_kf_arrivals_4_, vl_kf_arrivals_4_, kf_arrivals_4_⟩ := FunD.binds1 (ps := ["chart", "start", "draught", "hour", "last"]) FC_arrivals 4 2 (by intro z; cases z) rfl (fun _ _ _ _ _ _ _ us its h1 h2 => match us, its, h1, h2 with | [_, _, _, _], [_, _, _], _, _ => ⟨_, rfl, rfl⟩)
    refine ⟨_, pss_cons (ps_if (pt_not (pt_val (pe_cc C_l_same hr (pa_cons (pe_call (OC_arrivals base) (hr.mono (by decide)) (by rfl) gC_arrivals FC_arrivals.kp kf_arrivals_2_ vl_kf_arrivals_2_ pass0 (pa_cons (pv 0) (pa_cons (pv 2) pa_nil))) (pa_cons (pe_cc C_l_hours hr (pa_cons (pv 1) (pa_cons (pv 2) (pa_cons pe_int (pa_cons pe_int (pa_cons pe_int pa_nil)))))) pa_nil))))) (pss_cons (ps_ret pe_bl) pss_nil) (pss_nil))
      (pss_cons (ps_if (pt_not (pt_val (pe_cc C_l_same hr (pa_cons (pe_call (OC_arrivals base) (hr.mono (by decide)) (by rfl) gC_arrivals FC_arrivals.kp kf_arrivals_3_ vl_kf_arrivals_3_ pass0 (pa_cons (pv 0) (pa_cons (pv 2) (pa_cons (pv 3) pa_nil)))) (pa_cons (pe_cc C_l_hours hr (pa_cons (pv 1) (pa_cons (pv 2) (pa_cons (pv 3) (pa_cons pe_int (pa_cons pe_int pa_nil)))))) pa_nil))))) (pss_cons (ps_ret pe_bl) pss_nil) (pss_nil))
      (pss_cons (ps_set (i := 5) sc_l_left_out.nd rfl (.inl rfl) (pe_op op_mod (pe_callTy cl_int (by rfl) B.int (by decide +kernel) (pa_cons (pv 4) pa_nil)) pe_int))
      (pss_cons (ps_if (pt_not (pt_val (pe_cc C_l_same hr (pa_cons (pe_call (OC_arrivals base) (hr.mono (by decide)) (by rfl) gC_arrivals FC_arrivals.kp kf_arrivals_4_ vl_kf_arrivals_4_ pass0 (pa_cons (pv 0) (pa_cons (pv 2) (pa_cons (pv 3) (pa_cons (pv 5) pa_nil))))) (pa_cons (pe_cc C_l_hours hr (pa_cons (pv 1) (pa_cons (pv 2) (pa_cons (pv 3) (pa_cons (pv 5) (pa_cons pe_int pa_nil)))))) pa_nil))))) (pss_cons (ps_ret pe_bl) pss_nil) (pss_nil))
      (pss_cons (ps_ret (pe_cc C_l_same hr (pa_cons (pe_callN (OC_arrivals base) (hr.mono (by decide)) (by rfl) gC_arrivals FC_arrivals.kp kf_arrivals_2_last_draught pass0 (pa_cons (pv 0) (pa_cons (pv 2) pa_nil)) (pk_cons (pv 5) (pk_cons (pv 3) pk_nil))) (pa_cons (pe_cc C_l_hours hr (pa_cons (pv 1) (pa_cons (pv 2) (pa_cons (pv 3) (pa_cons pe_int (pa_cons (pv 5) pa_nil)))))) pa_nil)))) pss_nil)))), ?_⟩
    have c0 : Chg ([] : List Addr) H0 H0 := Chg.refl H0
    unfold Mi.m_l_left_out at hm
    refine q_ifS ?_
    refine w_not ?_
    refine w_B ?_
    refine w_call ?_
    refine w_cons ?_
    refine w_call ?_
    refine w_args (va_cons (val_var rfl) (va_cons (val_var rfl) va_nil)) ?_
    obtain ⟨q1, hq1, hm⟩ := Mi.bnd hm
    refine ⟨v0, d0, d2, (0 : Int), (0 : Int), (24 : Int), q1, rfl, r0, hq1, fun v4 H3 F6 c2 r5 fr7  => ?_⟩
    have d8 : Dj F1 F6 := Ty.fresh r1 fr7
    have n9 : ∀ a ∈ F6, H0 a = none := fun a h => c0.dom a (fr7 a h)
    have r0 := Ty.fz r0 c2
    have r1 := Ty.ex r1 c2
    have c0 := c0.trans c2.none
    refine w_cons ?_
    refine w_call ?_
    refine w_args (va_cons (val_var rfl) (va_cons (val_var rfl) (va_cons val_c (va_cons val_c (va_cons val_c va_nil))))) ?_
    obtain ⟨q10, hq10, hm⟩ := Mi.bnd hm
    refine ⟨v1, F1, d1, d2, (0 : Int), (0 : Int), (24 : Int), q10, rfl, r1, hq10, fun v13 H12 F15 c11 r14 fr16  => ?_⟩
    have d17 : Dj F1 F15 := Ty.fresh r1 fr16
    have d18 : Dj F6 F15 := Ty.fresh r5 fr16
    have n19 : ∀ a ∈ F15, H0 a = none := fun a h => c0.dom a (fr16 a h)
    have r0 := Ty.fz r0 c11
    have r1 := Ty.ex r1 c11
    have r5 := Ty.ex r5 c11
    have c0 := c0.trans c11.none
    refine w_nil ?_
    obtain ⟨q20, hq20, hm⟩ := Mi.bnd hm
    refine ⟨v4, F6, q1, v13, F15, q10, q20, rfl, r5, r14, hq20, fun H22 c21  => ?_⟩
    have r0 := Ty.fz r0 c21
    have r1 := Ty.ex r1 c21
    have c0 := c0.trans c21.none
    refine ⟨_, rfl, ?_⟩
    refine c_if (fun hb => ?_) (fun hb => ?_)
    ·
      replace hm := Mi.ifT hb hm
      refine q_ret ?_
      refine c_val val_c ?_
      obtain rfl := Option.some.inj hm
      exact hQ _ c0 
    replace hm := Mi.ifF hb hm
    refine w_fall ?_
    refine q_ifS ?_
    refine w_not ?_
    refine w_B ?_
    refine w_call ?_
    refine w_cons ?_
    refine w_call ?_
    refine w_args (va_cons (val_var rfl) (va_cons (val_var rfl) (va_cons (val_var rfl) va_nil))) ?_
    obtain ⟨q23, hq23, hm⟩ := Mi.bnd hm
    refine ⟨v0, d0, d2, d3, (0 : Int), (24 : Int), q23, rfl, r0, hq23, fun v26 H25 F28 c24 r27 fr29  => ?_⟩
    have d30 : Dj F1 F28 := Ty.fresh r1 fr29
    have n31 : ∀ a ∈ F28, H0 a = none := fun a h => c0.dom a (fr29 a h)
    have r0 := Ty.fz r0 c24
    have r1 := Ty.ex r1 c24
    have c0 := c0.trans c24.none
    refine w_cons ?_
    refine w_call ?_
    refine w_args (va_cons (val_var rfl) (va_cons (val_var rfl) (va_cons (val_var rfl) (va_cons val_c (va_cons val_c va_nil))))) ?_
    obtain ⟨q32, hq32, hm⟩ := Mi.bnd hm
    refine ⟨v1, F1, d1, d2, d3, (0 : Int), (24 : Int), q32, rfl, r1, hq32, fun v35 H34 F37 c33 r36 fr38  => ?_⟩
    have d39 : Dj F1 F37 := Ty.fresh r1 fr38
    have d40 : Dj F28 F37 := Ty.fresh r27 fr38
    have n41 : ∀ a ∈ F37, H0 a = none := fun a h => c0.dom a (fr38 a h)
    have r0 := Ty.fz r0 c33
    have r1 := Ty.ex r1 c33
    have r27 := Ty.ex r27 c33
    have c0 := c0.trans c33.none
    refine w_nil ?_
    obtain ⟨q42, hq42, hm⟩ := Mi.bnd hm
    refine ⟨v26, F28, q23, v35, F37, q32, q42, rfl, r27, r36, hq42, fun H44 c43  => ?_⟩
    have r0 := Ty.fz r0 c43
    have r1 := Ty.ex r1 c43
    have c0 := c0.trans c43.none
    refine ⟨_, rfl, ?_⟩
    refine c_if (fun hb => ?_) (fun hb => ?_)
    ·
      replace hm := Mi.ifT hb hm
      refine q_ret ?_
      refine c_val val_c ?_
      obtain rfl := Option.some.inj hm
      exact hQ _ c0 
    replace hm := Mi.ifF hb hm
    refine w_fall ?_
    obtain ⟨early45, hearly45, hm⟩ := Mi.letE hm
    refine q_setE (val_modc (val_int (val_var rfl)) val_c (by decide)) (congrArg V.int hearly45) (σ' := [some v0, some v1, some (.int d2), some (.int d3), some (.int d4), some (.int early45)]) rfl ?_
    refine q_ifS ?_
    refine w_not ?_
    refine w_B ?_
    refine w_call ?_
    refine w_cons ?_
    refine w_call ?_
    refine w_args (va_cons (val_var rfl) (va_cons (val_var rfl) (va_cons (val_var rfl) (va_cons (val_var rfl) va_nil)))) ?_
    obtain ⟨q46, hq46, hm⟩ := Mi.bnd hm
    refine ⟨v0, d0, d2, d3, early45, (24 : Int), q46, rfl, r0, hq46, fun v49 H48 F51 c47 r50 fr52  => ?_⟩
    have d53 : Dj F1 F51 := Ty.fresh r1 fr52
    have n54 : ∀ a ∈ F51, H0 a = none := fun a h => c0.dom a (fr52 a h)
    have r0 := Ty.fz r0 c47
    have r1 := Ty.ex r1 c47
    have c0 := c0.trans c47.none
    refine w_cons ?_
    refine w_call ?_
    refine w_args (va_cons (val_var rfl) (va_cons (val_var rfl) (va_cons (val_var rfl) (va_cons (val_var rfl) (va_cons val_c va_nil))))) ?_
    obtain ⟨q55, hq55, hm⟩ := Mi.bnd hm
    refine ⟨v1, F1, d1, d2, d3, early45, (24 : Int), q55, rfl, r1, hq55, fun v58 H57 F60 c56 r59 fr61  => ?_⟩
    have d62 : Dj F1 F60 := Ty.fresh r1 fr61
    have d63 : Dj F51 F60 := Ty.fresh r50 fr61
    have n64 : ∀ a ∈ F60, H0 a = none := fun a h => c0.dom a (fr61 a h)
    have r0 := Ty.fz r0 c56
    have r1 := Ty.ex r1 c56
    have r50 := Ty.ex r50 c56
    have c0 := c0.trans c56.none
    refine w_nil ?_
    obtain ⟨q65, hq65, hm⟩ := Mi.bnd hm
    refine ⟨v49, F51, q46, v58, F60, q55, q65, rfl, r50, r59, hq65, fun H67 c66  => ?_⟩
    have r0 := Ty.fz r0 c66
    have r1 := Ty.ex r1 c66
    have c0 := c0.trans c66.none
    refine ⟨_, rfl, ?_⟩
    refine c_if (fun hb => ?_) (fun hb => ?_)
    ·
      replace hm := Mi.ifT hb hm
      refine q_ret ?_
      refine c_val val_c ?_
      obtain rfl := Option.some.inj hm
      exact hQ _ c0 
    replace hm := Mi.ifF hb hm
    refine w_fall ?_
    refine q_ret ?_
    refine w_call ?_
    refine w_cons ?_
    refine w_callN ?_
    refine w_args (va_cons (val_var rfl) (va_cons (val_var rfl) va_nil)) ?_
    refine w_args (va_cons (val_var rfl) (va_cons (val_var rfl) va_nil)) ?_
    refine ⟨rfl, rfl, ?_⟩
    obtain ⟨q68, hq68, hm⟩ := Mi.bnd hm
    refine ⟨v0, d0, d2, d3, (0 : Int), early45, q68, rfl, r0, hq68, fun v71 H70 F73 c69 r72 fr74  => ?_⟩
    have d75 : Dj F1 F73 := Ty.fresh r1 fr74
    have n76 : ∀ a ∈ F73, H0 a = none := fun a h => c0.dom a (fr74 a h)
    have r0 := Ty.fz r0 c69
    have r1 := Ty.ex r1 c69
    have c0 := c0.trans c69.none
    refine w_cons ?_
    refine w_call ?_
    refine w_args (va_cons (val_var rfl) (va_cons (val_var rfl) (va_cons (val_var rfl) (va_cons val_c (va_cons (val_var rfl) va_nil))))) ?_
    obtain ⟨q77, hq77, hm⟩ := Mi.bnd hm
    refine ⟨v1, F1, d1, d2, d3, (0 : Int), early45, q77, rfl, r1, hq77, fun v80 H79 F82 c78 r81 fr83  => ?_⟩
    have d84 : Dj F1 F82 := Ty.fresh r1 fr83
    have d85 : Dj F73 F82 := Ty.fresh r72 fr83
    have n86 : ∀ a ∈ F82, H0 a = none := fun a h => c0.dom a (fr83 a h)
    have r0 := Ty.fz r0 c78
    have r1 := Ty.ex r1 c78
    have r72 := Ty.ex r72 c78
    have c0 := c0.trans c78.none
    refine w_nil ?_
    obtain ⟨q87, hq87, hm⟩ := Mi.bnd hm
    refine ⟨v71, F73, q68, v80, F82, q77, q87, rfl, r72, r81, hq87, fun H89 c88  => ?_⟩
    have r0 := Ty.fz r0 c88
    have r1 := Ty.ex r1 c88
    have c0 := c0.trans c88.none
    obtain rfl := Option.some.inj hm
    exact hQ _ c0 
abbrev s_law : Stmt := topS 43
abbrev N_law : List Str := ["_law_script", "_law_wide_here", "_law_hand_here", "_law_size", "_law_joins", "_law_sea_here", "_law_chart_here", "_law_before", "_law_start", "_law_deep", "_law_first", "_law_longer", "_law_stop", "_law_due", "_law_told"]
theorem sc_law : FnScope ["_law_script", "_law_wide_here", "_law_hand_here", "_law_size", "_law_joins", "_law_sea_here", "_law_chart_here", "_law_before", "_law_start", "_law_deep", "_law_first", "_law_longer", "_law_stop", "_law_due", "_law_told"] ["_law_script"] (defScope s_law) := ⟨rfl, rfl, rfl, by decide +kernel, rfl, by decide +kernel, by decide +kernel⟩
def sp_law (K : PySem.W.Frag) : Sp := fun vs H Q _ => ∃ (v0 : V) (d0 : (List Int)) (r : Bool), vs = [v0] ∧ yScr.rep K H [] v0 d0 ∧ Mi.m_law d0 = some r ∧ ∀ H', Chg ([]) H H' → Q (.bl r) H'
theorem ok_law (B : Bi mg) (CN : Cs K mg) (D : Dfn K mg "law" s_law) {C_Chart : Addr} (T_Chart : Tx K mg C_Chart "Chart" nm_Chart) (C_arrivals : CalD P w K mg "arrivals" s_arrivals dv_arrivals ["chart", "start", "draught", "hour", "last"] 4 (sp_arrivals K C_Chart)) (C_l_hand : Cal P w K mg "_law_hand" ["_law_script", "_law_k"] 1 (sp_l_hand K)) (C_l_pick : Cal P w K mg "_law_pick" ["_law_hand_here", "_law_size"] 1 (sp_l_pick K)) (C_l_chart : Cal P w K mg "_law_chart" ["_law_sea_here"] 5 (sp_l_chart K C_Chart)) (C_l_wide : Cal P w K mg "_law_wide" ["_law_hand_here"] 4 (sp_l_wide K)) (C_l_flows : Cal P w K mg "_law_flows" ["_law_hand_here", "_law_sea_here"] 2 (sp_l_flows K)) (C_l_thinned : Cal P w K mg "_law_thinned" ["_law_hand_here", "_law_joins", "_law_most"] 2 (sp_l_thinned K)) (C_l_strung : Cal P w K mg "_law_strung" ["_law_hand_here", "_law_joins", "_law_size"] 3 (sp_l_strung K)) (C_l_state : Cal P w K mg "_law_state" ["_law_chart_here"] 1 (sp_l_state K C_Chart)) (C_l_hours : Cal P w K mg "_law_hours" ["_law_sea_here", "_law_start", "_law_deep", "_law_first", "_law_stop"] 2 (sp_l_hours K)) (C_l_same : Cal P w K mg "_law_same" ["_law_told", "_law_due"] 2 (sp_l_same K)) (C_l_left_out : Cal P w K mg "_law_left_out" ["_law_chart_here", "_law_sea_here", "_law_start", "_law_deep", "_law_first"] 5 (sp_l_left_out K C_Chart)) : Cal P w K mg "law" ["_law_script"] 6 (sp_law K) := by
  obtain ⟨f, fd, F, g⟩ := D.ex
  refine ⟨f, fd, g, F.kp, bindsF F (fun _ _ _ _ _ _ us hl => match us, hl with | [_], _ => rfl), fun base => F.ok sc_law (fun vs H Q E h => ?_) (fun cdv A outer s H0 vs Q E hr h => ?_)⟩
  · obtain ⟨v0, d0, r, rfl, r0, hm, hQ⟩ := h; rfl
  ·
    obtain ⟨v0, d0, r, rfl, r0, hm, hQ⟩ := h
    obtain ⟨fC_arrivals, fdC_arrivals, gC_arrivals, FC_arrivals, OC_arrivals⟩ := C_arrivals.ex
    obtain ⟨mv_kf_arrivals_2_hour_last_draught, kf_arrivals_2_hour_last_draught⟩ := FunD.kbindsD (ps := ["chart", "start", "draught", "hour", "last"]) FC_arrivals 2 ["hour", "last", "draught"] (fun us mv ws => permG [0, 1, 7, 5, 6] us mv ws) (by intro z; cases z) (fun r1 r2 r3 => permG_rel _ r1 r2 r3) (fun _ _ _ _ _ _ _ us mv ws h1 h2 h3 => match us, mv, ws, h1, h2, h3 with | [_, _], [_, _, _], [_, _, _], _, _, _ => ⟨_, rfl, rfl⟩)
    obtain ⟨ds_kf_arrivals_5_, vl_kf_arrivals_5_, kf_arrivals_5_⟩ := FunD.binds1 (ps := ["chart", "start", "draught", "hour", "last"]) FC_arrivals 5 3 (by intro z; cases z) rfl (fun _ _ _ _ _ _ _ us its h1 h2 => match us, its, h1, h2 with | [_, _, _, _, _], [_, _, _], _, _ => ⟨_, rfl, rfl⟩)
    refine ⟨_, pss_cons (ps_set (i := 1) sc_law.nd rfl (.inl rfl) (pe_cc C_l_wide hr (pa_cons (pe_cc C_l_hand hr (pa_cons (pv 0) (pa_cons pe_int pa_nil))) pa_nil)))
      (pss_cons (ps_set (i := 2) sc_law.nd rfl (.inl rfl) (pe_cc C_l_hand hr (pa_cons (pv 0) (pa_cons pe_int pa_nil))))
      (pss_cons (ps_set (i := 3) sc_law.nd rfl (.inl rfl) (pe_callB (cl_len (K := K)) (by rfl) B.len PySem.boot_len (pa_cons (pe_ix (ix_t (K := K)) (pv 1) pe_int (fun _ _ => rfl)) pa_nil)))
      (pss_cons (ps_set (i := 4) sc_law.nd rfl (.inl rfl) (pe_cc C_l_strung hr (pa_cons (pe_cc C_l_hand hr (pa_cons (pv 0) (pa_cons pe_int pa_nil))) (pa_cons (pe_cc C_l_thinned hr (pa_cons (pv 2) (pa_cons (pe_ix (ix_t (K := K)) (pv 1) pe_int (fun _ _ => rfl)) (pa_cons pe_int pa_nil)))) (pa_cons (pv 3) pa_nil)))))
      (pss_cons (ps_set (i := 5) sc_law.nd rfl (.inl rfl) (pe_tup (pa_cons (pe_ix (ix_t (K := K)) (pv 1) pe_int (fun _ _ => rfl)) (pa_cons (pv 4) (pa_cons (pe_cc C_l_flows hr (pa_cons (pv 2) (pa_cons (pv 1) pa_nil))) (pa_cons (pe_ix (ix_t (K := K)) (pv 1) pe_int (fun _ _ => rfl)) pa_nil))))))
      (pss_cons (ps_set (i := 6) sc_law.nd rfl (.inl rfl) (pe_cc C_l_chart hr (pa_cons (pv 5) pa_nil)))
      (pss_cons (ps_set (i := 7) sc_law.nd rfl (.inl rfl) (pe_cc C_l_state hr (pa_cons (pv 6) pa_nil)))
      (pss_cons (ps_set (i := 2) sc_law.nd rfl (.inl rfl) (pe_cc C_l_hand hr (pa_cons (pv 0) (pa_cons pe_int pa_nil))))
      (pss_cons (ps_set (i := 8) sc_law.nd rfl (.inl rfl) (pe_cc C_l_pick hr (pa_cons (pv 2) (pa_cons (pv 3) pa_nil))))
      (pss_cons (ps_set (i := 9) sc_law.nd rfl (.inl rfl) (pe_op op_add (pe_op op_add (pe_ix (ix_l (K := K)) (pe_ix (ix_t (K := K)) (pv 5) pe_int (fun _ _ => rfl)) (pe_cc C_l_pick hr (pa_cons (pv 2) (pa_cons (pv 3) pa_nil))) (fun _ _ => rfl)) (pe_ix (ix_l (K := K)) (pe_ix (ix_t (K := K)) (pv 5) pe_int (fun _ _ => rfl)) (pe_cc C_l_pick hr (pa_cons (pv 2) (pa_cons (pe_callB (cl_len (K := K)) (by rfl) B.len PySem.boot_len (pa_cons (pe_ix (ix_t (K := K)) (pv 5) pe_int (fun _ _ => rfl)) pa_nil)) pa_nil))) (fun _ _ => rfl))) (pe_cc C_l_pick hr (pa_cons (pv 2) (pa_cons pe_int pa_nil)))))
      (pss_cons (ps_set (i := 10) sc_law.nd rfl (.inl rfl) (pe_cc C_l_pick hr (pa_cons (pv 2) (pa_cons pe_int pa_nil))))
      (pss_cons (ps_if (pt_cmpR op_eq (pe_cc C_l_pick hr (pa_cons (pv 2) (pa_cons pe_int pa_nil))) pe_int (nomark _)) (pss_cons (ps_set (i := 10) sc_law.nd rfl (.inl rfl) (pe_cc C_l_pick hr (pa_cons (pv 2) (pa_cons pe_int pa_nil))))
      (pss_nil)) (pss_nil))
      (pss_cons (ps_set (i := 11) sc_law.nd rfl (.inl rfl) (pe_cc C_l_pick hr (pa_cons (pv 2) (pa_cons pe_int pa_nil))))
      (pss_cons (ps_if (pt_cmpR op_eq (pe_cc C_l_pick hr (pa_cons (pv 2) (pa_cons pe_int pa_nil))) pe_int (nomark _)) (pss_cons (ps_set (i := 11) sc_law.nd rfl (.inl rfl) (pe_cc C_l_pick hr (pa_cons (pv 2) (pa_cons pe_int pa_nil))))
      (pss_nil)) (pss_nil))
      (pss_cons (ps_set (i := 12) sc_law.nd rfl (.inl rfl) (pe_callB (cl_min2 rfl) (by rfl) B.min (by decide +kernel) (pa_cons pe_int (pa_cons (pe_op op_add (pv 10) (pv 11)) pa_nil))))
      (pss_cons (ps_set (i := 13) sc_law.nd rfl (.inl rfl) (pe_cc C_l_hours hr (pa_cons (pv 5) (pa_cons (pv 8) (pa_cons (pv 9) (pa_cons (pv 10) (pa_cons (pv 12) pa_nil)))))))
      (pss_cons (ps_set (i := 14) sc_law.nd rfl (.inl rfl) (pe_call (OC_arrivals base) (hr.mono (by decide)) (by rfl) gC_arrivals FC_arrivals.kp kf_arrivals_5_ vl_kf_arrivals_5_ pass0 (pa_cons (pv 6) (pa_cons (pv 8) (pa_cons (pv 9) (pa_cons (pv 10) (pa_cons (pv 12) pa_nil)))))))
      (pss_cons (ps_if (pt_not (pt_val (pe_cc C_l_same hr (pa_cons (pv 14) (pa_cons (pv 13) pa_nil))))) (pss_cons (ps_ret pe_bl) pss_nil) (pss_nil))
      (pss_cons (ps_expr (pe_bm0 PySem.F.plainAttrs_list PySem.F.slot_list_reverse PySem.F.type_list_reverse mt_reverse (pv 14)))
      (pss_cons (ps_expr (pe_bm PySem.F.plainAttrs_list PySem.F.slot_list_append PySem.F.type_list_append mt_append (pv 14) (pa_cons pe_int pa_nil)))
      (pss_cons (ps_if (pt_not (pt_val (pe_cc C_l_left_out hr (pa_cons (pv 6) (pa_cons (pv 5) (pa_cons (pv 8) (pa_cons (pv 9) (pa_cons (pv 10) pa_nil)))))))) (pss_cons (ps_ret pe_bl) pss_nil) (pss_nil))
      (pss_cons (ps_if (pt_not (pt_val (pe_cc C_l_same hr (pa_cons (pe_callN (OC_arrivals base) (hr.mono (by decide)) (by rfl) gC_arrivals FC_arrivals.kp kf_arrivals_2_hour_last_draught pass0 (pa_cons (pv 6) (pa_cons (pv 8) pa_nil)) (pk_cons (pv 10) (pk_cons (pv 12) (pk_cons (pv 9) pk_nil)))) (pa_cons (pv 13) pa_nil))))) (pss_cons (ps_ret pe_bl) pss_nil) (pss_nil))
      (pss_cons (ps_ret (pe_cmpR (op_eq_d hr.units) (pe_cc C_l_state hr (pa_cons (pv 6) pa_nil)) (pv 7) (nomark _))) pss_nil)))))))))))))))))))))), ?_⟩
    have c0 : Chg ([] : List Addr) H0 H0 := Chg.refl H0
    unfold Mi.m_law at hm
    refine q_asg ?_
    refine w_call ?_
    refine w_cons ?_
    refine w_call ?_
    refine w_args (va_cons (val_var rfl) (va_cons val_c va_nil)) ?_
    obtain ⟨q1, hq1, hm⟩ := Mi.bnd hm
    refine ⟨v0, d0, (0 : Int), q1, rfl, r0, hq1, fun v4 H3 F6 c2 r5 fr7  => ?_⟩
    have n8 : ∀ a ∈ F6, H0 a = none := fun a h => c0.dom a (fr7 a h)
    have r0 := Ty.fz r0 c2
    have c0 := c0.trans c2.none
    refine w_nil ?_
    obtain ⟨q9, hq9, hm⟩ := Mi.bnd hm
    have r5_old := r5
    refine ⟨v4, F6, q1, q9, rfl, r5, hq9, fun v12 H11 F14 c10 r13 fr15 r5 => ?_⟩
    have n16 : ∀ a ∈ F14, H0 a = none := fun a h => c0.dom a (fr15 a h)
    have r0 := Ty.fz r0 c10
    have c0 := c0.join c10 (fun a h => .inr (n8 a h))
    refine g_name (σ' := [some v0, some v12, none, none, none, none, none, none, none, none, none, none, none, none, none]) rfl ?_
    refine q_asg ?_
    refine w_call ?_
    refine w_args (va_cons (val_var rfl) (va_cons val_c va_nil)) ?_
    obtain ⟨q17, hq17, hm⟩ := Mi.bnd hm
    refine ⟨v0, d0, (7 : Int), q17, rfl, r0, hq17, fun v20 H19 F22 c18 r21 fr23  => ?_⟩
    have d24 : Dj F14 F22 := Ty.fresh r13 fr23
    have n25 : ∀ a ∈ F22, H0 a = none := fun a h => c0.dom a (fr23 a h)
    have r0 := Ty.fz r0 c18
    have r13 := Ty.ex r13 c18
    have c0 := c0.trans c18.none
    refine g_name (σ' := [some v0, some v12, some v20, none, none, none, none, none, none, none, none, none, none, none, none]) rfl ?_
    obtain ⟨u26, F27, r28, su29, kx30, ku31⟩ := itm_tup (n := 0) at0 r13
    have d32 : Dj F27 F22 := Dj.sub (d24) su29
    have n33 : ∀ a ∈ F27, H0 a = none := fun a h => n16 a (su29 a h)
    obtain ⟨size34, hsize34, hm⟩ := Mi.letE hm
    refine q_setE (val_lenL r28 (ku31 (val_var rfl) val_c)) (congrArg V.int hsize34) (σ' := [some v0, some v12, some v20, some (.int size34), none, none, none, none, none, none, none, none, none, none, none]) rfl ?_
    refine q_asg ?_
    refine w_call ?_
    refine w_cons ?_
    refine w_call ?_
    refine w_args (va_cons (val_var rfl) (va_cons val_c va_nil)) ?_
    obtain ⟨q35, hq35, hm⟩ := Mi.bnd hm
    refine ⟨v0, d0, (8 : Int), q35, rfl, r0, hq35, fun v38 H37 F40 c36 r39 fr41  => ?_⟩
    have d42 : Dj F14 F40 := Ty.fresh r13 fr41
    have d43 : Dj F22 F40 := Ty.fresh r21 fr41
    have n44 : ∀ a ∈ F40, H0 a = none := fun a h => c0.dom a (fr41 a h)
    have r0 := Ty.fz r0 c36
    have r13 := Ty.ex r13 c36
    have r21 := Ty.ex r21 c36
    have c0 := c0.trans c36.none
    refine w_cons ?_
    refine w_call ?_
    obtain ⟨u45, F46, r47, su48, kx49, ku50⟩ := itm_tup (n := 1) (atS at0) r13
    have d51 : Dj F46 F22 := Dj.sub (d24) su48
    have d52 : Dj F46 F40 := Dj.sub (d42) su48
    have n53 : ∀ a ∈ F46, H0 a = none := fun a h => n16 a (su48 a h)
    refine w_args (va_cons (val_var rfl) (va_cons (ku50 (val_var rfl) val_c) (va_cons val_c va_nil))) ?_
    obtain ⟨q54, hq54, hm⟩ := Mi.bnd hm
    have r21_old := r21
    refine ⟨v20, F22, q17, u45, F46, q9.1.2.1, (4 : Int), q54, rfl, r21, r47, d51.symm, hq54, fun v57 H56 F59 c55 r58 fr60 r21 => ?_⟩
    have d61 : Dj F14 F59 := Ty.fresh r13 fr60
    have d62 : Dj F22 F59 := Ty.fresh r21_old fr60
    have d63 : Dj F40 F59 := Ty.fresh r39 fr60
    have n64 : ∀ a ∈ F59, H0 a = none := fun a h => c0.dom a (fr60 a h)
    have r0 := Ty.fz r0 c55
    have r13 := Ty.chg r13 c55 d24
    have r39 := Ty.chg r39 c55 d43.symm
    have c0 := c0.join c55 (fun a h => .inr (n25 a h))
    refine w_cons ?_
    refine c_val (val_var rfl) ?_
    refine w_nil ?_
    obtain ⟨q65, hq65, hm⟩ := Mi.bnd hm
    have r39_old := r39
    refine ⟨v38, F40, q35, v57, F59, q54.1, size34, q65, rfl, r39, r58, d63, hq65, fun v68 H67 F70 c66 r69 fr71 r39 => ?_⟩
    have d72 : Dj F14 F70 := Ty.freshOr r13 fr71 (d61)
    have d73 : Dj F22 F70 := Ty.freshOr r21 fr71 (d62)
    have n74 : ∀ a ∈ F70, H0 a = none := fun a h => (fr71 a h).elim (fun z => c0.dom a z) (fun z => n64 a z)
    have r0 := Ty.fz r0 c66
    have r13 := Ty.chg r13 c66 d42
    have r21 := Ty.chg r21 c66 d43
    have c0 := c0.join c66 (fun a h => .inr (n44 a h))
    refine g_name (σ' := [some v0, some v12, some v20, some (.int size34), some v68, none, none, none, none, none, none, none, none, none, none]) rfl ?_
    refine q_asg ?_
    refine w_tup ?_
    refine w_cons ?_
    obtain ⟨u75, F76, r77, su78, kx79, ku80⟩ := itm_tup (n := 0) at0 r13
    have d81 : Dj F76 F22 := Dj.sub (d24) su78
    have d82 : Dj F76 F70 := Dj.sub (d72) su78
    have n83 : ∀ a ∈ F76, H0 a = none := fun a h => n16 a (su78 a h)
    refine c_val (ku80 (val_var rfl) val_c) ?_
    refine w_cons ?_
    refine c_val (val_var rfl) ?_
    refine w_cons ?_
    refine w_call ?_
    refine w_args (va_cons (val_var rfl) (va_cons (val_var rfl) va_nil)) ?_
    obtain ⟨q84, hq84, hm⟩ := Mi.bnd hm
    have r21_old := r21
    refine ⟨v20, F22, q54.2, v12, F14, q9.1, q84, rfl, r21, r13, d24.symm, hq84, fun v87 H86 F89 c85 r88 fr90 r21 => ?_⟩
    have d91 : Dj F14 F89 := Ty.fresh r13 fr90
    have d92 : Dj F22 F89 := Ty.fresh r21_old fr90
    have d93 : Dj F70 F89 := Ty.fresh r69 fr90
    have d94 : Dj F76 F89 := Ty.fresh r77 fr90
    have n95 : ∀ a ∈ F89, H0 a = none := fun a h => c0.dom a (fr90 a h)
    have r0 := Ty.fz r0 c85
    have r13 := Ty.chg r13 c85 d24
    have r69 := Ty.chg r69 c85 d73.symm
    have r77 := Ty.chg r77 c85 d81
    have c0 := c0.join c85 (fun a h => .inr (n25 a h))
    refine w_cons ?_
    obtain ⟨u96, F97, r98, su99, kx100, ku101⟩ := itm_tup (n := 3) (atS (atS (atS at1))) r13
    have d102 : Dj F97 F22 := Dj.sub (d24) su99
    have d103 : Dj F97 F70 := Dj.sub (d72) su99
    have d104 : Dj F97 F89 := Dj.sub (d91) su99
    have n105 : ∀ a ∈ F97, H0 a = none := fun a h => n16 a (su99 a h)
    refine c_val (ku101 (val_var rfl) val_c) ?_
    refine w_nil ?_
    refine e_tup (K := K) (ty := (sCons (yLst yInt) (sCons (yLst (yTup (sCons yInt (sOne yInt)))) (sCons (yLst yInt) (sOne (yLst yInt)))))) (F := (F76 ++ (F70 ++ (F89 ++ F97)))) (d := (q9.1.1, q65.1, q84.1, q9.1.2.2.2)) (by exact Nat.le_of_ble_eq_true rfl) ⟨_, _, _, _, rfl, rfl, r77, ⟨_, _, _, _, rfl, rfl, r69, ⟨_, _, _, _, rfl, rfl, r88, ⟨_, rfl, r98⟩⟩⟩⟩ fun p106 H110 np109 c107 r108 => ?_
    have r0 := Ty.fz r0 c107
    have r13 := Ty.ex r13 c107
    have r21 := Ty.ex r21 c107
    have r69 := Ty.ex r69 c107
    have r77 := Ty.ex r77 c107
    have r88 := Ty.ex r88 c107
    have r98 := Ty.ex r98 c107
    have c0 := c0.trans c107.none
    have d111 : Dj (F76 ++ (F70 ++ (F89 ++ F97))) F22 := (Dj.app (d81) ((Dj.app (d73.symm) ((Dj.app (d92.symm) (d102))))))
    refine g_name (σ' := [some v0, some v12, some v20, some (.int size34), some v68, some (.ref p106), none, none, none, none, none, none, none, none, none]) rfl ?_
    refine q_asg ?_
    refine w_call ?_
    refine w_args (va_cons (val_var rfl) va_nil) ?_
    obtain ⟨q112, hq112, hm⟩ := Mi.bnd hm
    refine ⟨(.ref p106), (F76 ++ (F70 ++ (F89 ++ F97))), (q9.1.1, q65.1, q84.1, q9.1.2.2.2), q112, rfl, r108, hq112, fun v115 H114 c113 r116  => ?_⟩
    have r0 := Ty.fz r0 c113
    have r13 := Ty.ex r13 c113
    have r21 := Ty.ex r21 c113
    have r69 := Ty.ex r69 c113
    have r108 := Ty.ex r108 c113
    have c0 := c0.trans c113.none
    refine g_name (σ' := [some v0, some v12, some v20, some (.int size34), some v68, some (.ref p106), some v115, none, none, none, none, none, none, none, none]) rfl ?_
    refine q_asg ?_
    refine w_call ?_
    refine w_args (va_cons (val_var rfl) va_nil) ?_
    obtain ⟨q117, hq117, hm⟩ := Mi.bnd hm
    refine ⟨v115, q112, q117, rfl, r116, hq117, fun v120 H119 c118 r121  => ?_⟩
    have r0 := Ty.fz r0 c118
    have r13 := Ty.ex r13 c118
    have r21 := Ty.ex r21 c118
    have r69 := Ty.ex r69 c118
    have r108 := Ty.ex r108 c118
    have r116 := Ty.fz r116 c118
    have c0 := c0.trans c118.none
    refine g_name (σ' := [some v0, some v12, some v20, some (.int size34), some v68, some (.ref p106), some v115, some v120, none, none, none, none, none, none, none]) rfl ?_
    refine q_asg ?_
    refine w_call ?_
    refine w_args (va_cons (val_var rfl) (va_cons val_c va_nil)) ?_
    obtain ⟨q122, hq122, hm⟩ := Mi.bnd hm
    refine ⟨v0, d0, (6 : Int), q122, rfl, r0, hq122, fun v125 H124 F127 c123 r126 fr128  => ?_⟩
    have d129 : Dj F14 F127 := Ty.fresh r13 fr128
    have d130 : Dj F22 F127 := Ty.fresh r21 fr128
    have d131 : Dj F70 F127 := Ty.fresh r69 fr128
    have d132 : Dj (F76 ++ (F70 ++ (F89 ++ F97))) F127 := Ty.fresh r108 fr128
    have n133 : ∀ a ∈ F127, H0 a = none := fun a h => c0.dom a (fr128 a h)
    have r0 := Ty.fz r0 c123
    have r13 := Ty.ex r13 c123
    have r21 := Ty.ex r21 c123
    have r69 := Ty.ex r69 c123
    have r108 := Ty.ex r108 c123
    have r116 := Ty.fz r116 c123
    have r121 := Ty.fz r121 c123
    have c0 := c0.trans c123.none
    refine g_name (σ' := [some v0, some v12, some v125, some (.int size34), some v68, some (.ref p106), some v115, some v120, none, none, none, none, none, none, none]) rfl ?_
    refine q_asg ?_
    refine w_call ?_
    refine w_args (va_cons (val_var rfl) (va_cons (val_var rfl) va_nil)) ?_
    obtain ⟨q134, hq134, hm⟩ := Mi.bnd hm
    refine ⟨v125, F127, q122, size34, q134, rfl, r126, hq134, fun H136 c135 r126 => ?_⟩
    have r0 := Ty.fz r0 c135
    have r13 := Ty.chg r13 c135 d129
    have r69 := Ty.chg r69 c135 d131
    have r108 := Ty.chg r108 c135 d132
    have r116 := Ty.fz r116 c135
    have r121 := Ty.fz r121 c135
    have c0 := c0.join c135 (fun a h => .inr (n133 a h))
    refine g_name (σ' := [some v0, some v12, some v125, some (.int size34), some v68, some (.ref p106), some v115, some v120, some (.int q134.1), none, none, none, none, none, none]) rfl ?_
    refine q_asg ?_
    refine w_op ?_
    refine w_op ?_
    refine w_op ?_
    obtain ⟨u137, F138, r139, su140, kx141, ku142⟩ := itm_tup (n := 0) at0 r108
    have d143 : Dj F138 F127 := Dj.sub (d132) su140
    have n144 : ∀ a ∈ F138, H0 a = none := fun a h => (app_fresh n83 (app_fresh n74 (app_fresh n95 n105))) a (su140 a h)
    refine c_val (ku142 (val_var rfl) val_c) ?_
    refine w_call ?_
    refine w_args (va_cons (val_var rfl) (va_cons (val_var rfl) va_nil)) ?_
    obtain ⟨q145, hq145, hm⟩ := Mi.bnd hm
    refine ⟨v125, F127, q134.2, size34, q145, rfl, r126, hq145, fun H147 c146 r126 => ?_⟩
    have r0 := Ty.fz r0 c146
    have r13 := Ty.chg r13 c146 d129
    have r69 := Ty.chg r69 c146 d131
    have r108 := Ty.chg r108 c146 d132
    have r116 := Ty.fz r116 c146
    have r121 := Ty.fz r121 c146
    have r139 := Ty.chg r139 c146 d143
    have c0 := c0.join c146 (fun a h => .inr (n133 a h))
    obtain ⟨x148, hx148, hm⟩ := Mi.bnd hm
    refine w_ixL r139 hx148 fun u149 r150 => ?_
    obtain ⟨_, rfl⟩ := r150
    refine w_op ?_
    obtain ⟨u151, F152, r153, su154, kx155, ku156⟩ := itm_tup (n := 2) (atS (atS at0)) r108
    have d157 : Dj F152 F127 := Dj.sub (d132) su154
    have n158 : ∀ a ∈ F152, H0 a = none := fun a h => (app_fresh n83 (app_fresh n74 (app_fresh n95 n105))) a (su154 a h)
    refine c_val (ku156 (val_var rfl) val_c) ?_
    refine w_call ?_
    obtain ⟨u159, F160, r161, su162, kx163, ku164⟩ := itm_tup (n := 2) (atS (atS at0)) r108
    have d165 : Dj F160 F127 := Dj.sub (d132) su162
    have n166 : ∀ a ∈ F160, H0 a = none := fun a h => (app_fresh n83 (app_fresh n74 (app_fresh n95 n105))) a (su162 a h)
    refine w_args (va_cons (val_var rfl) (va_cons (val_lenL r161 (ku164 (val_var rfl) val_c)) va_nil)) ?_
    obtain ⟨q167, hq167, hm⟩ := Mi.bnd hm
    refine ⟨v125, F127, q145.2, ((q9.1.1, q65.1, q84.1, q9.1.2.2.2).2.2.1.length : Int), q167, rfl, r126, hq167, fun H169 c168 r126 => ?_⟩
    have r0 := Ty.fz r0 c168
    have r13 := Ty.chg r13 c168 d129
    have r69 := Ty.chg r69 c168 d131
    have r108 := Ty.chg r108 c168 d132
    have r116 := Ty.fz r116 c168
    have r121 := Ty.fz r121 c168
    have r153 := Ty.chg r153 c168 d157
    have c0 := c0.join c168 (fun a h => .inr (n133 a h))
    obtain ⟨x170, hx170, hm⟩ := Mi.bnd hm
    refine w_ixL r153 hx170 fun u171 r172 => ?_
    obtain ⟨_, rfl⟩ := r172
    refine w_I0 ?_
    refine w_call ?_
    refine w_args (va_cons (val_var rfl) (va_cons val_c va_nil)) ?_
    obtain ⟨q173, hq173, hm⟩ := Mi.bnd hm
    refine ⟨v125, F127, q167.2, (2 : Int), q173, rfl, r126, hq173, fun H175 c174 r126 => ?_⟩
    have r0 := Ty.fz r0 c174
    have r13 := Ty.chg r13 c174 d129
    have r69 := Ty.chg r69 c174 d131
    have r108 := Ty.chg r108 c174 d132
    have r116 := Ty.fz r116 c174
    have r121 := Ty.fz r121 c174
    have c0 := c0.join c174 (fun a h => .inr (n133 a h))
    refine w_I0 ?_
    obtain ⟨deep176, hdeep176, hm⟩ := Mi.letE hm
    refine g_nameE (congrArg V.int hdeep176) (σ' := [some v0, some v12, some v125, some (.int size34), some v68, some (.ref p106), some v115, some v120, some (.int q134.1), some (.int deep176), none, none, none, none, none]) rfl ?_
    refine q_asg ?_
    refine w_call ?_
    refine w_args (va_cons (val_var rfl) (va_cons val_c va_nil)) ?_
    obtain ⟨q177, hq177, hm⟩ := Mi.bnd hm
    refine ⟨v125, F127, q173.2, (31 : Int), q177, rfl, r126, hq177, fun H179 c178 r126 => ?_⟩
    have r0 := Ty.fz r0 c178
    have r13 := Ty.chg r13 c178 d129
    have r69 := Ty.chg r69 c178 d131
    have r108 := Ty.chg r108 c178 d132
    have r116 := Ty.fz r116 c178
    have r121 := Ty.fz r121 c178
    have c0 := c0.join c178 (fun a h => .inr (n133 a h))
    refine g_name (σ' := [some v0, some v12, some v125, some (.int size34), some v68, some (.ref p106), some v115, some v120, some (.int q134.1), some (.int deep176), some (.int q177.1), none, none, none, none]) rfl ?_
    obtain ⟨s180, hs180, hm⟩ := Mi.bnd hm
    refine s_join (R := fun σ' H' => σ' = [some v0, some v12, some v125, some (.int size34), some v68, some (.ref p106), some v115, some v120, some (.int q134.1), some (.int deep176), some (.int s180.2), none, none, none, none] ∧ Chg ([] : List Addr) H0 H' ∧ yScr.rep K H' [] v0 d0 ∧ (yTup (sCons (yLst yInt) (sCons (yLst (yTup (sCons yInt (sOne yInt)))) (sCons (yLst yInt) (sOne (yLst yInt)))))).rep K H' F14 v12 q9.1 ∧ (yLst yInt).rep K H' F127 v125 s180.1 ∧ (yLst (yTup (sCons yInt (sOne yInt)))).rep K H' F70 v68 q65.1 ∧ (yTup (sCons (yLst yInt) (sCons (yLst (yTup (sCons yInt (sOne yInt)))) (sCons (yLst yInt) (sOne (yLst yInt)))))).rep K H' (F76 ++ (F70 ++ (F89 ++ F97))) (.ref p106) (q9.1.1, q65.1, q84.1, q9.1.2.2.2) ∧ (yObj C_Chart nm_Chart ty_Chart).rep K H' [] v115 q112 ∧ (yTup (sCons yInt (sCons (yTupL yInt) (sCons (yTupL (yTup (sCons yInt (sOne yInt)))) (sCons (yTupL yInt) (sOne (yTupL yInt))))))).rep K H' [] v120 q117) (fun nx kx => ?_) (fun σ' H' hj => ?_)
    ·
      refine w_ifS ?_
      refine w_test ?_
      refine w_op ?_
      refine w_call ?_
      refine w_args (va_cons (val_var rfl) (va_cons val_c va_nil)) ?_
      obtain ⟨q181, hq181, hs180⟩ := Mi.bnd hs180
      refine ⟨v125, F127, q177.2, (4 : Int), q181, rfl, r126, hq181, fun H183 c182 r126 => ?_⟩
      have r0 := Ty.fz r0 c182
      have r13 := Ty.chg r13 c182 d129
      have r69 := Ty.chg r69 c182 d131
      have r108 := Ty.chg r108 c182 d132
      have r116 := Ty.fz r116 c182
      have r121 := Ty.fz r121 c182
      have c0 := c0.join c182 (fun a h => .inr (n133 a h))
      refine c_val val_c ?_
      refine w_eqI ?_
      refine ⟨_, rfl, ?_⟩
      refine c_if (fun hb => ?_) (fun hb => ?_)
      ·
        replace hs180 := Mi.ifT hb hs180
        refine q_asg ?_
        refine w_call ?_
        refine w_args (va_cons (val_var rfl) (va_cons val_c va_nil)) ?_
        obtain ⟨q184, hq184, hs180⟩ := Mi.bnd hs180
        refine ⟨v125, F127, q181.2, (97 : Int), q184, rfl, r126, hq184, fun H186 c185 r126 => ?_⟩
        have r0 := Ty.fz r0 c185
        have r13 := Ty.chg r13 c185 d129
        have r69 := Ty.chg r69 c185 d131
        have r108 := Ty.chg r108 c185 d132
        have r116 := Ty.fz r116 c185
        have r121 := Ty.fz r121 c185
        have c0 := c0.join c185 (fun a h => .inr (n133 a h))
        refine g_name (σ' := [some v0, some v12, some v125, some (.int size34), some v68, some (.ref p106), some v115, some v120, some (.int q134.1), some (.int deep176), some (.int q184.1), none, none, none, none]) rfl ?_
        refine w_nextJ ?_
        obtain rfl := Option.some.inj hs180
        exact kx _ _ ⟨rfl, c0, r0, r13, r126, r69, r108, r116, r121⟩
      ·
        replace hs180 := Mi.ifF hb hs180
        refine w_nextJ ?_
        obtain rfl := Option.some.inj hs180
        exact kx _ _ ⟨rfl, c0, r0, r13, r126, r69, r108, r116, r121⟩
    obtain ⟨rfl, c0, r0, r13, r126, r69, r108, r116, r121⟩ := hj
    refine q_asg ?_
    refine w_call ?_
    refine w_args (va_cons (val_var rfl) (va_cons val_c va_nil)) ?_
    obtain ⟨q187, hq187, hm⟩ := Mi.bnd hm
    refine ⟨v125, F127, s180.1, (15 : Int), q187, rfl, r126, hq187, fun H189 c188 r126 => ?_⟩
    have r0 := Ty.fz r0 c188
    have r13 := Ty.chg r13 c188 d129
    have r69 := Ty.chg r69 c188 d131
    have r108 := Ty.chg r108 c188 d132
    have r116 := Ty.fz r116 c188
    have r121 := Ty.fz r121 c188
    have c0 := c0.join c188 (fun a h => .inr (n133 a h))
    refine g_name (σ' := [some v0, some v12, some v125, some (.int size34), some v68, some (.ref p106), some v115, some v120, some (.int q134.1), some (.int deep176), some (.int s180.2), some (.int q187.1), none, none, none]) rfl ?_
    obtain ⟨s190, hs190, hm⟩ := Mi.bnd hm
    refine s_join (R := fun σ' H' => σ' = [some v0, some v12, some v125, some (.int size34), some v68, some (.ref p106), some v115, some v120, some (.int q134.1), some (.int deep176), some (.int s180.2), some (.int s190), none, none, none] ∧ Chg ([] : List Addr) H0 H' ∧ yScr.rep K H' [] v0 d0 ∧ (yTup (sCons (yLst yInt) (sCons (yLst (yTup (sCons yInt (sOne yInt)))) (sCons (yLst yInt) (sOne (yLst yInt)))))).rep K H' F14 v12 q9.1 ∧ (yLst (yTup (sCons yInt (sOne yInt)))).rep K H' F70 v68 q65.1 ∧ (yTup (sCons (yLst yInt) (sCons (yLst (yTup (sCons yInt (sOne yInt)))) (sCons (yLst yInt) (sOne (yLst yInt)))))).rep K H' (F76 ++ (F70 ++ (F89 ++ F97))) (.ref p106) (q9.1.1, q65.1, q84.1, q9.1.2.2.2) ∧ (yObj C_Chart nm_Chart ty_Chart).rep K H' [] v115 q112 ∧ (yTup (sCons yInt (sCons (yTupL yInt) (sCons (yTupL (yTup (sCons yInt (sOne yInt)))) (sCons (yTupL yInt) (sOne (yTupL yInt))))))).rep K H' [] v120 q117) (fun nx kx => ?_) (fun σ' H' hj => ?_)
    ·
      refine w_ifS ?_
      refine w_test ?_
      refine w_op ?_
      refine w_call ?_
      refine w_args (va_cons (val_var rfl) (va_cons val_c va_nil)) ?_
      obtain ⟨q191, hq191, hs190⟩ := Mi.bnd hs190
      refine ⟨v125, F127, q187.2, (8 : Int), q191, rfl, r126, hq191, fun H193 c192 r126 => ?_⟩
      have r0 := Ty.fz r0 c192
      have r13 := Ty.chg r13 c192 d129
      have r69 := Ty.chg r69 c192 d131
      have r108 := Ty.chg r108 c192 d132
      have r116 := Ty.fz r116 c192
      have r121 := Ty.fz r121 c192
      have c0 := c0.join c192 (fun a h => .inr (n133 a h))
      refine c_val val_c ?_
      refine w_eqI ?_
      refine ⟨_, rfl, ?_⟩
      refine c_if (fun hb => ?_) (fun hb => ?_)
      ·
        replace hs190 := Mi.ifT hb hs190
        refine q_asg ?_
        refine w_call ?_
        refine w_args (va_cons (val_var rfl) (va_cons val_c va_nil)) ?_
        obtain ⟨q194, hq194, hs190⟩ := Mi.bnd hs190
        refine ⟨v125, F127, q191.2, (97 : Int), q194, rfl, r126, hq194, fun H196 c195 r126 => ?_⟩
        have r0 := Ty.fz r0 c195
        have r13 := Ty.chg r13 c195 d129
        have r69 := Ty.chg r69 c195 d131
        have r108 := Ty.chg r108 c195 d132
        have r116 := Ty.fz r116 c195
        have r121 := Ty.fz r121 c195
        have c0 := c0.join c195 (fun a h => .inr (n133 a h))
        refine g_name (σ' := [some v0, some v12, some v125, some (.int size34), some v68, some (.ref p106), some v115, some v120, some (.int q134.1), some (.int deep176), some (.int s180.2), some (.int q194.1), none, none, none]) rfl ?_
        refine w_nextJ ?_
        obtain rfl := Option.some.inj hs190
        exact kx _ _ ⟨rfl, c0, r0, r13, r69, r108, r116, r121⟩
      ·
        replace hs190 := Mi.ifF hb hs190
        refine w_nextJ ?_
        obtain rfl := Option.some.inj hs190
        exact kx _ _ ⟨rfl, c0, r0, r13, r69, r108, r116, r121⟩
    obtain ⟨rfl, c0, r0, r13, r69, r108, r116, r121⟩ := hj
    obtain ⟨stop197, hstop197, hm⟩ := Mi.letE hm
    refine q_setE (val_min2 val_c (val_add (val_var rfl) (val_var rfl))) (congrArg V.int hstop197) (σ' := [some v0, some v12, some v125, some (.int size34), some v68, some (.ref p106), some v115, some v120, some (.int q134.1), some (.int deep176), some (.int s180.2), some (.int s190), some (.int stop197), none, none]) rfl ?_
    refine q_asg ?_
    refine w_call ?_
    refine w_args (va_cons (val_var rfl) (va_cons (val_var rfl) (va_cons (val_var rfl) (va_cons (val_var rfl) (va_cons (val_var rfl) va_nil))))) ?_
    obtain ⟨q198, hq198, hm⟩ := Mi.bnd hm
    refine ⟨(.ref p106), (F76 ++ (F70 ++ (F89 ++ F97))), (q9.1.1, q65.1, q84.1, q9.1.2.2.2), q134.1, deep176, s180.2, stop197, q198, rfl, r108, hq198, fun v201 H200 F203 c199 r202 fr204  => ?_⟩
    have d205 : Dj F14 F203 := Ty.fresh r13 fr204
    have d206 : Dj F70 F203 := Ty.fresh r69 fr204
    have d207 : Dj (F76 ++ (F70 ++ (F89 ++ F97))) F203 := Ty.fresh r108 fr204
    have n208 : ∀ a ∈ F203, H0 a = none := fun a h => c0.dom a (fr204 a h)
    have r0 := Ty.fz r0 c199
    have r13 := Ty.ex r13 c199
    have r69 := Ty.ex r69 c199
    have r108 := Ty.ex r108 c199
    have r116 := Ty.fz r116 c199
    have r121 := Ty.fz r121 c199
    have c0 := c0.trans c199.none
    refine g_name (σ' := [some v0, some v12, some v125, some (.int size34), some v68, some (.ref p106), some v115, some v120, some (.int q134.1), some (.int deep176), some (.int s180.2), some (.int s190), some (.int stop197), some v201, none]) rfl ?_
    refine q_asg ?_
    refine w_call ?_
    refine w_args (va_cons (val_var rfl) (va_cons (val_var rfl) (va_cons (val_var rfl) (va_cons (val_var rfl) (va_cons (val_var rfl) va_nil))))) ?_
    obtain ⟨q209, hq209, hm⟩ := Mi.bnd hm
    refine ⟨v115, q112, q134.1, deep176, s180.2, stop197, q209, rfl, r116, hq209, fun v212 H211 F214 c210 r213 fr215  => ?_⟩
    have d216 : Dj F14 F214 := Ty.fresh r13 fr215
    have d217 : Dj F70 F214 := Ty.fresh r69 fr215
    have d218 : Dj (F76 ++ (F70 ++ (F89 ++ F97))) F214 := Ty.fresh r108 fr215
    have d219 : Dj F203 F214 := Ty.fresh r202 fr215
    have n220 : ∀ a ∈ F214, H0 a = none := fun a h => c0.dom a (fr215 a h)
    have r0 := Ty.fz r0 c210
    have r13 := Ty.ex r13 c210
    have r69 := Ty.ex r69 c210
    have r108 := Ty.ex r108 c210
    have r116 := Ty.fz r116 c210
    have r121 := Ty.fz r121 c210
    have r202 := Ty.ex r202 c210
    have c0 := c0.trans c210.none
    refine g_name (σ' := [some v0, some v12, some v125, some (.int size34), some v68, some (.ref p106), some v115, some v120, some (.int q134.1), some (.int deep176), some (.int s180.2), some (.int s190), some (.int stop197), some v201, some v212]) rfl ?_
    refine q_ifS ?_
    refine w_not ?_
    refine w_B ?_
    refine w_call ?_
    refine w_args (va_cons (val_var rfl) (va_cons (val_var rfl) va_nil)) ?_
    obtain ⟨q221, hq221, hm⟩ := Mi.bnd hm
    refine ⟨v212, F214, q209, v201, F203, q198, q221, rfl, r213, r202, hq221, fun H223 c222  => ?_⟩
    have r0 := Ty.fz r0 c222
    have r13 := Ty.ex r13 c222
    have r69 := Ty.ex r69 c222
    have r108 := Ty.ex r108 c222
    have r116 := Ty.fz r116 c222
    have r121 := Ty.fz r121 c222
    have r202 := Ty.ex r202 c222
    have r213 := Ty.ex r213 c222
    have c0 := c0.trans c222.none
    refine ⟨_, rfl, ?_⟩
    refine c_if (fun hb => ?_) (fun hb => ?_)
    ·
      replace hm := Mi.ifT hb hm
      refine q_ret ?_
      refine c_val val_c ?_
      obtain rfl := Option.some.inj hm
      exact hQ _ c0 
    replace hm := Mi.ifF hb hm
    refine w_fall ?_
    refine q_drop (w_bm0 (c_val (val_var rfl) ⟨tyv_lst r213, ?_⟩))
    refine m_reverse r213 fun H225 c224 r213 => ?_
    have r0 := Ty.fz r0 c224
    have r13 := Ty.chg r13 c224 d216
    have r69 := Ty.chg r69 c224 d217
    have r108 := Ty.chg r108 c224 d218
    have r116 := Ty.fz r116 c224
    have r121 := Ty.fz r121 c224
    have r202 := Ty.chg r202 c224 d219
    have c0 := c0.join c224 (fun a h => .inr (n220 a h))
    refine q_drop (w_bm (c_val (val_var rfl) ⟨tyv_lst r213, ?_⟩))
    refine w_args (va_cons val_c va_nil) ?_
    obtain ⟨x226, hx226, hm⟩ := Mi.bnd hm
    refine m_app r213 (opt_i nn_int yInt_i) hx226 fun H228 c227 r213 => ?_
    have r0 := Ty.fz r0 c227
    have r13 := Ty.chg r13 c227 d216
    have r69 := Ty.chg r69 c227 d217
    have r108 := Ty.chg r108 c227 d218
    have r116 := Ty.fz r116 c227
    have r121 := Ty.fz r121 c227
    have r202 := Ty.chg r202 c227 d219
    have c0 := c0.join c227 (fun a h => .inr (n220 a h))
    refine q_ifS ?_
    refine w_not ?_
    refine w_B ?_
    refine w_call ?_
    refine w_args (va_cons (val_var rfl) (va_cons (val_var rfl) (va_cons (val_var rfl) (va_cons (val_var rfl) (va_cons (val_var rfl) va_nil))))) ?_
    obtain ⟨q229, hq229, hm⟩ := Mi.bnd hm
    refine ⟨v115, q112, (.ref p106), (F76 ++ (F70 ++ (F89 ++ F97))), (q9.1.1, q65.1, q84.1, q9.1.2.2.2), q134.1, deep176, s180.2, q229, rfl, r116, r108, hq229, fun H231 c230  => ?_⟩
    have r0 := Ty.fz r0 c230
    have r13 := Ty.ex r13 c230
    have r69 := Ty.ex r69 c230
    have r108 := Ty.ex r108 c230
    have r116 := Ty.fz r116 c230
    have r121 := Ty.fz r121 c230
    have r202 := Ty.ex r202 c230
    have r213 := Ty.ex r213 c230
    have c0 := c0.trans c230.none
    refine ⟨_, rfl, ?_⟩
    refine c_if (fun hb => ?_) (fun hb => ?_)
    ·
      replace hm := Mi.ifT hb hm
      refine q_ret ?_
      refine c_val val_c ?_
      obtain rfl := Option.some.inj hm
      exact hQ _ c0 
    replace hm := Mi.ifF hb hm
    refine w_fall ?_
    refine q_ifS ?_
    refine w_not ?_
    refine w_B ?_
    refine w_call ?_
    refine w_cons ?_
    refine w_callN ?_
    refine w_args (va_cons (val_var rfl) (va_cons (val_var rfl) va_nil)) ?_
    refine w_args (va_cons (val_var rfl) (va_cons (val_var rfl) (va_cons (val_var rfl) va_nil))) ?_
    refine ⟨rfl, rfl, ?_⟩
    obtain ⟨q232, hq232, hm⟩ := Mi.bnd hm
    refine ⟨v115, q112, q134.1, deep176, s180.2, stop197, q232, rfl, r116, hq232, fun v235 H234 F237 c233 r236 fr238  => ?_⟩
    have d239 : Dj F14 F237 := Ty.fresh r13 fr238
    have d240 : Dj F70 F237 := Ty.fresh r69 fr238
    have d241 : Dj (F76 ++ (F70 ++ (F89 ++ F97))) F237 := Ty.fresh r108 fr238
    have d242 : Dj F203 F237 := Ty.fresh r202 fr238
    have d243 : Dj F214 F237 := Ty.fresh r213 fr238
    have n244 : ∀ a ∈ F237, H0 a = none := fun a h => c0.dom a (fr238 a h)
    have r0 := Ty.fz r0 c233
    have r13 := Ty.ex r13 c233
    have r69 := Ty.ex r69 c233
    have r108 := Ty.ex r108 c233
    have r116 := Ty.fz r116 c233
    have r121 := Ty.fz r121 c233
    have r202 := Ty.ex r202 c233
    have r213 := Ty.ex r213 c233
    have c0 := c0.trans c233.none
    refine w_cons ?_
    refine c_val (val_var rfl) ?_
    refine w_nil ?_
    obtain ⟨q245, hq245, hm⟩ := Mi.bnd hm
    refine ⟨v235, F237, q232, v201, F203, q198, q245, rfl, r236, r202, hq245, fun H247 c246  => ?_⟩
    have r0 := Ty.fz r0 c246
    have r13 := Ty.ex r13 c246
    have r69 := Ty.ex r69 c246
    have r108 := Ty.ex r108 c246
    have r116 := Ty.fz r116 c246
    have r121 := Ty.fz r121 c246
    have r202 := Ty.ex r202 c246
    have r213 := Ty.ex r213 c246
    have c0 := c0.trans c246.none
    refine ⟨_, rfl, ?_⟩
    refine c_if (fun hb => ?_) (fun hb => ?_)
    ·
      replace hm := Mi.ifT hb hm
      refine q_ret ?_
      refine c_val val_c ?_
      obtain rfl := Option.some.inj hm
      exact hQ _ c0 
    replace hm := Mi.ifF hb hm
    refine w_fall ?_
    refine q_ret ?_
    refine w_op ?_
    refine w_call ?_
    refine w_args (va_cons (val_var rfl) va_nil) ?_
    obtain ⟨q248, hq248, hm⟩ := Mi.bnd hm
    refine ⟨v115, q112, q248, rfl, r116, hq248, fun v251 H250 c249 r252  => ?_⟩
    have r0 := Ty.fz r0 c249
    have r13 := Ty.ex r13 c249
    have r69 := Ty.ex r69 c249
    have r108 := Ty.ex r108 c249
    have r116 := Ty.fz r116 c249
    have r121 := Ty.fz r121 c249
    have r202 := Ty.ex r202 c249
    have r213 := Ty.ex r213 c249
    have c0 := c0.trans c249.none
    refine c_val (val_var rfl) ?_
    refine w_eqD (τ := (yTup (sCons yInt (sCons (yTupL yInt) (sCons (yTupL (yTup (sCons yInt (sOne yInt)))) (sCons (yTupL yInt) (sOne (yTupL yInt)))))))) (dat_tup (sat_cons dat_int (sat_cons (dat_tupl dat_int) (sat_cons (dat_tupl (dat_tup (sat_cons dat_int (sat_one dat_int)))) (sat_cons (dat_tupl dat_int) (sat_one (dat_tupl dat_int))))))) r252 r121 ?_
    obtain rfl := Option.some.inj hm
    exact hQ _ c0 
end
end G

set_option maxHeartbeats 0
namespace G
open PySem PySem.Spec PyProof.Rows L2
theorem fun_of {K : PySem.W.Frag} {x q : Str} {st : Stmt} {f : Addr} {fd : FuncData} (F : FunD K x q (defArgs st) (defBody st) (defScope st) [] [] f fd) : Fun K x q st f fd := by
  obtain ⟨oc, od, dV, kV, doc, pm, an, cdv, ct, osl, e, lk, hcd, hd, _⟩ := F.ex
  rcases hd with ⟨_, rfl⟩ | ⟨z, _⟩
  · exact ⟨⟨oc, od, kV, doc, pm, an, cdv, ct, osl, e, lk, hcd⟩, F.kp⟩
  · exact absurd rfl z
def dOf (x : Str) (i : Nat) : He.DefD := ⟨(x, none), x, x, defArgs (topS i), defBody (topS i), defScope (topS i), [], []⟩
def dOfD (x : Str) (i : Nat) (dv : List He.Dv) : He.DefD := ⟨(x, none), x, x, defArgs (topS i), defBody (topS i), defScope (topS i), dv, []⟩
def dOfM (c m qual : Str) (st : Stmt) (kw : List (Str × He.Dv)) : He.DefD := ⟨(c, some m), m, qual, defArgs st, defBody st, defScope st, [], kw⟩
def fnL : List He.DefD := [dOf "is_zone" 11, dOf "good_numbers" 17, dOf "good_depths" 18, dOf "good_lanes" 19, dOf "good_tide" 20, dOf "good_harbours" 21, dOf "ordered_lanes" 22, dOf "joined_places" 23, dOfM "Chart" "__init__" "Chart.__init__" s_Chart_init [("tide", .adr (kwdAt ("Chart", some "__init__") "tide")), ("harbours", .adr (kwdAt ("Chart", some "__init__") "harbours"))], dOfM "Chart" "water" "Chart.water" s_Chart_water [], dOf "open_places" 2, dOfM "Chart" "neighbours" "Chart.neighbours" s_Chart_neighbours [], dOf "touches" 3, dOf "newly_reached" 5, dOfD "arrivals" 6 [.int 0, .int 0, .int 24], dOf "_law_hand" 26, dOf "_law_pick" 27, dOf "_law_int" 28, dOf "_law_some" 29, dOf "_law_sea" 30, dOf "_law_chart" 31, dOf "_law_touches" 32, dOf "_law_wide" 33, dOf "_law_flows" 34, dOf "_law_thinned" 35, dOf "_law_stirred" 36, dOf "_law_strung" 37, dOf "_law_state" 38, dOf "_law_wet" 39, dOf "_law_hours" 40, dOf "_law_same" 41, dOf "_law_left_out" 42, dOf "law" 43]
def faL : List He.Fa := [.glo "is_zone", .glo "good_numbers", .glo "good_depths", .glo "good_lanes", .glo "good_tide", .glo "good_harbours", .glo "ordered_lanes", .glo "joined_places", .mkr "Chart", .meth "Chart" "water", .glo "open_places", .meth "Chart" "neighbours", .glo "touches", .glo "newly_reached", .glo "arrivals", .glo "_law_hand", .glo "_law_pick", .glo "_law_int", .glo "_law_some", .glo "_law_sea", .glo "_law_chart", .glo "_law_touches", .glo "_law_wide", .glo "_law_flows", .glo "_law_thinned", .glo "_law_stirred", .glo "_law_strung", .glo "_law_state", .glo "_law_wet", .glo "_law_hours", .glo "_law_same", .glo "_law_left_out", .glo "law", .free "len", .free "range", .free "int", .free "bool", .free "isinstance", .free "max", .free "min", .free "list", .free "tuple", .free "sorted", .free "set", .free "enumerate", .free "zip", .free "reversed", .free "sum", .free "any", .free "all", .free "str", .int "GREATEST_DEPTH" 99, .int "GREATEST_TIDE" 20, .int "MOST_PLACES" 12, .int "MOST_TIDE_NUMBERS" 12, .glo "Chart", .cls "Chart", .noat "Chart" "size", .noat "Chart" "depths", .noat "Chart" "lanes", .noat "Chart" "tide", .noat "Chart" "harbours", .noat "Chart" "joined"]
abbrev R : PySem.W.OpenRow := PySem.W.OpenLaw.row PySem.Challenge.rw_fogfleet_k05_arrivals_by_tide
def exL (K : PySem.W.Frag) : Bool := tupAt K (kwdAt ("Chart", some "__init__") "tide" K) (([0] : List Int).map He.Dv.int) && tupAt K (kwdAt ("Chart", some "__init__") "harbours" K) (([] : List Int).map He.Dv.int)
abbrev hk : PySem.W.Hook := hookE 6 faL fnL exL
def ob (s : PySem.W.SharedT) : He.AlD × Bool := obsEG 6 faL fnL exL (HandSHeadRun.getT s)
theorem ob_eq (s : PySem.W.SharedT) : ob s = hk.obs s.abs := obsEG_eq (HandSHeadRun.getT_eq s)
def looseL : List Str := (["_wall", "open_places", "touches", "newly_reached", "arrivals", "FleetError", "InvalidChart", "is_zone", "MOST_PLACES", "GREATEST_DEPTH", "MOST_TIDE_NUMBERS", "GREATEST_TIDE", "good_numbers", "good_depths", "good_lanes", "good_tide", "good_harbours", "ordered_lanes", "joined_places", "Chart"] : List Str) ++ (["_law_hand", "_law_pick", "_law_int", "_law_some", "_law_sea", "_law_chart", "_law_touches", "_law_wide", "_law_flows", "_law_thinned", "_law_stirred", "_law_strung", "_law_state", "_law_wet", "_law_hours", "_law_same", "_law_left_out"] : List Str)
theorem run (w : World) : HandSHeadRun.RunEq R (PySem.W.view R.prog [43]) hk ob 6000 looseL w := by
  intro os
  kernel_rfl
theorem dfn_of {K : PySem.W.Frag} {h : Heap} {mg : Str → Option Value} (X : K.In h) (G : h.Ns mainGlobals mg) (c : He.SaysD faL fnL K) (i j k : Nat) (x : Str) (hi : fnL[i]? = some (dOf x k)) (hj : faL[j]? = some (.glo x)) : Dfn K mg x (topS k) := by
  obtain ⟨fd, F⟩ := c.def_ i hi
  exact ⟨⟨_, fd, fun_of F, He.glo_ok X G (c.fact j hj)⟩⟩
theorem dfnD_of {K : PySem.W.Frag} {h : Heap} {mg : Str → Option Value} (X : K.In h) (G : h.Ns mainGlobals mg) (c : He.SaysD faL fnL K) (i j k : Nat) (x : Str) (dv : List He.Dv) (hi : fnL[i]? = some (dOfD x k dv)) (hj : faL[j]? = some (.glo x)) : DfnD K mg x (topS k) (dv.map (He.Dv.v K)) := by
  obtain ⟨fd, F⟩ := c.def_ i hi
  exact ⟨⟨_, fd, F, He.glo_ok X G (c.fact j hj)⟩⟩
theorem dfnM_of {K : PySem.W.Frag} (c : He.SaysD faL fnL K) (i j : Nat) (C m qual : Str) (st : Stmt) (hi : fnL[i]? = some (dOfM C m qual st [])) (hj : faL[j]? = some (.meth C m)) : DfnM K (He.ga K C) m qual st := by
  obtain ⟨fd, F⟩ := c.def_ i hi
  exact ⟨⟨_, fd, fun_of F, He.meth_ok (c.fact j hj)⟩⟩
theorem dfnI_of {K : PySem.W.Frag} (c : He.SaysD faL fnL K) (i j : Nat) (C qual : Str) (st : Stmt) (kw : List (Str × He.Dv)) (hi : fnL[i]? = some (dOfM C "__init__" qual st kw)) (hj : faL[j]? = some (.mkr C)) : DfnI K (He.ga K C) qual st (kw.map fun q => (q.1, q.2.v K)) := by
  obtain ⟨fd, F⟩ := c.def_ i hi
  exact ⟨⟨_, fd, F, He.mkr_ok (c.fact j hj)⟩⟩
theorem facts {P : Program} {w : World} {K : PySem.W.Frag} {h : Heap} {mg : Str → Option Value} (X : K.In h) (G : h.Ns mainGlobals mg) (c : He.SaysD faL fnL K) (ce : exL K = true) {fa : Addr} (hfa : mg ("law" : Str) = some (.ref fa)) :
    ∃ fd : FuncData, (∀ (s : Shared) (v : Value), BindsTo s fd ⟨[v], []⟩ [("_law_script", v)]) ∧ ∀ base : Heap, K.In base → base.Ns mainGlobals mg → FnOk P w K mg base CX0 6 fa fd ["_law_script"] (sp_law K) := by
  have B : Bi mg := ⟨He.free_ok X G (c.fact 33 rfl), He.free_ok X G (c.fact 34 rfl), He.free_ok X G (c.fact 35 rfl), He.free_ok X G (c.fact 36 rfl), He.free_ok X G (c.fact 37 rfl), He.free_ok X G (c.fact 38 rfl), He.free_ok X G (c.fact 39 rfl), He.free_ok X G (c.fact 40 rfl), He.free_ok X G (c.fact 41 rfl), He.free_ok X G (c.fact 42 rfl), He.free_ok X G (c.fact 43 rfl), He.free_ok X G (c.fact 44 rfl), He.free_ok X G (c.fact 45 rfl), He.free_ok X G (c.fact 46 rfl), He.free_ok X G (c.fact 47 rfl), He.free_ok X G (c.fact 48 rfl), He.free_ok X G (c.fact 49 rfl), He.free_ok X G (c.fact 50 rfl)⟩
  obtain ⟨ce1_, ce1⟩ := He.ba (show (_ && _) = true from ce)
  have ce0 := ce1_
  have CN : Cs K mg := ⟨He.int_ok X G (c.fact 51 rfl), He.int_ok X G (c.fact 52 rfl), He.int_ok X G (c.fact 53 rfl), He.int_ok X G (c.fact 54 rfl), tupAt_ints ce0, tupAt_ints ce1⟩
  have T_Chart : Tx K mg (He.ga K "Chart") "Chart" nm_Chart := ⟨He.cls_ok (c.fact 56 rfl), He.glo_ok X G (c.fact 55 rfl), fun f hf => by
    simp only [List.mem_cons, List.not_mem_nil, or_false] at hf
    rcases hf with rfl | rfl | rfl | rfl | rfl | rfl
    · exact He.noat_ok (c.fact 57 rfl)
    · exact He.noat_ok (c.fact 58 rfl)
    · exact He.noat_ok (c.fact 59 rfl)
    · exact He.noat_ok (c.fact 60 rfl)
    · exact He.noat_ok (c.fact 61 rfl)
    · exact He.noat_ok (c.fact 62 rfl)⟩
  have C_is_zone : Cal P w K mg "is_zone" ["zone", "size"] 1 (sp_is_zone K) := ok_is_zone B CN (dfn_of X G c 0 0 11 "is_zone" rfl rfl)
  have C_good_numbers : Cal P w K mg "good_numbers" ["numbers", "most", "greatest"] 1 (sp_good_numbers K) := ok_good_numbers B CN (dfn_of X G c 1 1 17 "good_numbers" rfl rfl)
  have C_good_depths : Cal P w K mg "good_depths" ["depths"] 2 (sp_good_depths K) := ok_good_depths B CN (dfn_of X G c 2 2 18 "good_depths" rfl rfl) C_good_numbers
  have C_good_lanes : Cal P w K mg "good_lanes" ["lanes", "size"] 1 (sp_good_lanes K) := ok_good_lanes B CN (dfn_of X G c 3 3 19 "good_lanes" rfl rfl)
  have C_good_tide : Cal P w K mg "good_tide" ["tide"] 2 (sp_good_tide K) := ok_good_tide B CN (dfn_of X G c 4 4 20 "good_tide" rfl rfl) C_good_numbers
  have C_good_harbours : Cal P w K mg "good_harbours" ["harbours", "size"] 2 (sp_good_harbours K) := ok_good_harbours B CN (dfn_of X G c 5 5 21 "good_harbours" rfl rfl) C_is_zone
  have C_ordered_lanes : Cal P w K mg "ordered_lanes" ["lanes"] 1 (sp_ordered_lanes K) := ok_ordered_lanes B CN (dfn_of X G c 6 6 22 "ordered_lanes" rfl rfl)
  have C_joined_places : Cal P w K mg "joined_places" ["size", "lanes"] 1 (sp_joined_places K) := ok_joined_places B CN (dfn_of X G c 7 7 23 "joined_places" rfl rfl)
  have I_Chart : CalI P w K mg (He.ga K "Chart") "Chart.__init__" s_Chart_init (kw_Chart K) ["self", "depths", "lanes", "tide", "harbours"] 3 (sp_Chart_init K (He.ga K "Chart")) := ok_Chart_init B CN T_Chart C_good_depths C_good_lanes C_good_tide C_good_harbours C_ordered_lanes C_joined_places (dfnI_of c 8 8 "Chart" "Chart.__init__" s_Chart_init [("tide", .adr (kwdAt ("Chart", some "__init__") "tide")), ("harbours", .adr (kwdAt ("Chart", some "__init__") "harbours"))] rfl rfl)
  have M_Chart_water : CalM P w K mg (He.ga K "Chart") "water" ["self", "place", "hour"] 1 (sp_Chart_water K (He.ga K "Chart")) := ok_Chart_water B CN T_Chart (dfnM_of c 9 9 "Chart" "water" "Chart.water" s_Chart_water rfl rfl)
  have C_open_places : Cal P w K mg "open_places" ["chart", "draught", "hour"] 2 (sp_open_places K (He.ga K "Chart")) := ok_open_places B CN (dfn_of X G c 10 10 2 "open_places" rfl rfl) T_Chart M_Chart_water
  have M_Chart_neighbours : CalM P w K mg (He.ga K "Chart") "neighbours" ["self", "place"] 1 (sp_Chart_neighbours K (He.ga K "Chart")) := ok_Chart_neighbours B CN T_Chart (dfnM_of c 11 11 "Chart" "neighbours" "Chart.neighbours" s_Chart_neighbours rfl rfl)
  have C_touches : Cal P w K mg "touches" ["chart", "place", "marked"] 2 (sp_touches K (He.ga K "Chart")) := ok_touches B CN (dfn_of X G c 12 12 3 "touches" rfl rfl) T_Chart M_Chart_neighbours
  have C_newly_reached : Cal P w K mg "newly_reached" ["chart", "hours", "wet"] 3 (sp_newly_reached K (He.ga K "Chart")) := ok_newly_reached B CN (dfn_of X G c 13 13 5 "newly_reached" rfl rfl) T_Chart C_touches
  have C_arrivals : CalD P w K mg "arrivals" s_arrivals dv_arrivals ["chart", "start", "draught", "hour", "last"] 4 (sp_arrivals K (He.ga K "Chart")) := ok_arrivals B CN (dfnD_of X G c 14 14 6 "arrivals" [.int 0, .int 0, .int 24] rfl rfl) T_Chart C_open_places C_newly_reached
  have C_l_hand : Cal P w K mg "_law_hand" ["_law_script", "_law_k"] 1 (sp_l_hand K) := ok_l_hand B CN (dfn_of X G c 15 15 26 "_law_hand" rfl rfl)
  have C_l_pick : Cal P w K mg "_law_pick" ["_law_hand_here", "_law_size"] 1 (sp_l_pick K) := ok_l_pick B CN (dfn_of X G c 16 16 27 "_law_pick" rfl rfl)
  have C_l_int : Cal P w K mg "_law_int" ["_law_x"] 1 (sp_l_int K) := ok_l_int B CN (dfn_of X G c 17 17 28 "_law_int" rfl rfl)
  have C_l_some : Cal P w K mg "_law_some" ["_law_hand_here", "_law_size", "_law_share"] 2 (sp_l_some K) := ok_l_some B CN (dfn_of X G c 18 18 29 "_law_some" rfl rfl) C_l_pick
  have C_l_sea : Cal P w K mg "_law_sea" ["_law_hand_here", "_law_most"] 3 (sp_l_sea K) := ok_l_sea B CN (dfn_of X G c 19 19 30 "_law_sea" rfl rfl) C_l_pick C_l_some
  have C_l_chart : Cal P w K mg "_law_chart" ["_law_sea_here"] 5 (sp_l_chart K (He.ga K "Chart")) := ok_l_chart B CN (dfn_of X G c 20 20 31 "_law_chart" rfl rfl) T_Chart I_Chart
  have C_l_touches : Cal P w K mg "_law_touches" ["_law_sea_here", "_law_here", "_law_place"] 1 (sp_l_touches K) := ok_l_touches B CN (dfn_of X G c 21 21 32 "_law_touches" rfl rfl)
  have C_l_wide : Cal P w K mg "_law_wide" ["_law_hand_here"] 4 (sp_l_wide K) := ok_l_wide B CN (dfn_of X G c 22 22 33 "_law_wide" rfl rfl) C_l_pick C_l_sea
  have C_l_flows : Cal P w K mg "_law_flows" ["_law_hand_here", "_law_sea_here"] 2 (sp_l_flows K) := ok_l_flows B CN (dfn_of X G c 23 23 34 "_law_flows" rfl rfl) C_l_pick
  have C_l_thinned : Cal P w K mg "_law_thinned" ["_law_hand_here", "_law_joins", "_law_most"] 2 (sp_l_thinned K) := ok_l_thinned B CN (dfn_of X G c 24 24 35 "_law_thinned" rfl rfl) C_l_pick
  have C_l_stirred : Cal P w K mg "_law_stirred" ["_law_hand_here", "_law_rows"] 2 (sp_l_stirred K) := ok_l_stirred B CN (dfn_of X G c 25 25 36 "_law_stirred" rfl rfl) C_l_pick
  have C_l_strung : Cal P w K mg "_law_strung" ["_law_hand_here", "_law_joins", "_law_size"] 3 (sp_l_strung K) := ok_l_strung B CN (dfn_of X G c 26 26 37 "_law_strung" rfl rfl) C_l_pick C_l_stirred
  have C_l_state : Cal P w K mg "_law_state" ["_law_chart_here"] 1 (sp_l_state K (He.ga K "Chart")) := ok_l_state B CN (dfn_of X G c 27 27 38 "_law_state" rfl rfl) T_Chart
  have C_l_wet : Cal P w K mg "_law_wet" ["_law_sea_here", "_law_deep", "_law_when"] 1 (sp_l_wet K) := ok_l_wet B CN (dfn_of X G c 28 28 39 "_law_wet" rfl rfl)
  have C_l_hours : Cal P w K mg "_law_hours" ["_law_sea_here", "_law_start", "_law_deep", "_law_first", "_law_stop"] 2 (sp_l_hours K) := ok_l_hours B CN (dfn_of X G c 29 29 40 "_law_hours" rfl rfl) C_l_touches C_l_wet
  have C_l_same : Cal P w K mg "_law_same" ["_law_told", "_law_due"] 2 (sp_l_same K) := ok_l_same B CN (dfn_of X G c 30 30 41 "_law_same" rfl rfl) C_l_int
  have C_l_left_out : Cal P w K mg "_law_left_out" ["_law_chart_here", "_law_sea_here", "_law_start", "_law_deep", "_law_first"] 5 (sp_l_left_out K (He.ga K "Chart")) := ok_l_left_out B CN (dfn_of X G c 31 31 42 "_law_left_out" rfl rfl) T_Chart C_arrivals C_l_hours C_l_same
  have C_law : Cal P w K mg "law" ["_law_script"] 6 (sp_law K) := ok_law B CN (dfn_of X G c 32 32 43 "law" rfl rfl) T_Chart C_arrivals C_l_hand C_l_pick C_l_chart C_l_wide C_l_flows C_l_thinned C_l_strung C_l_state C_l_hours C_l_same C_l_left_out
  exact fn_law hfa C_law
end G

open PySem PySem.W PySem.Calls PyProof.Rows
theorem PySem.Challenge.cw_fogfleet_k05_arrivals_by_tide_holds : PySem.Challenge.rw_fogfleet_k05_arrivals_by_tide.Holds := by
  w_on; o_law
  refine HandSHeadRun.head_any (r := OpenLaw.row PySem.Challenge.rw_fogfleet_k05_arrivals_by_tide) (q := view (OpenLaw.row PySem.Challenge.rw_fogfleet_k05_arrivals_by_tide).prog [43]) (H := G.hk) (ob := G.ob) (M := 6000) (loose := G.looseL) (d := HandSHeadRun.topDef (OpenLaw.row PySem.Challenge.rw_fogfleet_k05_arrivals_by_tide).prog 43) (kwd := []) G.ob_eq
    (by kernel_rfl) (fun s => by kernel_rfl) G.run (by kernel_rfl) (by kernel_rfl) (by kernel_rfl) (by rfl) (by first | assumption | decide +kernel) (by decide +kernel) ⟨rfl, rfl, rfl, rfl, rfl, by decide +kernel⟩ ?hw ?hc
  case hw => w_witness2
  case hc =>
    refine L2.walk_ofE (l := PySem.Challenge.rw_fogfleet_k05_arrivals_by_tide) (n := 63) (k := 6) (x := "_law_script") (CX := L2.CX0) rfl (by decide) (by kernel_rfl) ⟨rfl, by decide, by decide⟩ ?F (fun _ _ _ _ z => z)
    intro w mg fa h Y G0 hmg0
    obtain ⟨K, KX, c, ce⟩ := Y
    have hmg : mg ("law" : PySem.Str) = some (.ref fa) := by
      have e : (HandSHeadRun.topDef (OpenLaw.row PySem.Challenge.rw_fogfleet_k05_arrivals_by_tide).prog 43).name = ("law" : PySem.Str) := by kernel_rfl
      rw [← e]
      exact hmg0
    obtain ⟨fd, hb, hF⟩ := G.facts (P := (PySem.Challenge.rw_fogfleet_k05_arrivals_by_tide).prog) (w := w) KX G0 c ce hmg
    exact ⟨K, fd, G.sp_law K, KX, hb, fun H a ns hl hO hS => ⟨_, ns, true, rfl, G.yScr_of hO hS, Mi.law_true ns hl, fun _ _ => rfl⟩, hF⟩
