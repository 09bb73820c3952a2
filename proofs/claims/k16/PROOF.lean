import PyProof.Rows.All
import Wide.All
import OpenK.AllK
import Wide.FinOn
import HandS.ForMost
import HandS.ForExc
import HandS.Wide
import HandS.IsInst
import HandS.Flow
import HandS.Defaults
import HandS.SortInts
import HandS.Strs
import HandS.TupSets
import HandS.MakeKw
import HandS.MakeKwOnly
import HandS.Conv
import HandS.Steps
import KE.GoesMore
import HandS.Text
import HandS.Iter
import HandS.SortRule
import HandS.TupLe
import HandS.HeadHook1
import HandS.HeadHook2
import HandS.Deep
import KE.KRevSl
import HandS.Rev
import HandS.RevTup
import KE.KStateDown
import Lean
import HandS.Head0
import HandS.Head1
import HandS.Head2
import HandS.HeadEnd
import PySem.Challenge.RW_fogfleet_k16_corridor_of_reports
set_option Elab.async false
set_option linter.all false
set_option maxRecDepth 100000
set_option maxHeartbeats 4000000
/-! the plain meaning of the program's steps: none is what this text says nothing about -/
namespace Mi
def pyLet {α β : Type} (e : α) (f : α → β) : β := f e
def ixN (n : Nat) (i : Int) : Option Nat := if 0 ≤ i then (if i < n then some i.toNat else none) else if -(n : Int) ≤ i then some (i + n).toNat else none
def at_ {α : Type} (xs : List α) (i : Int) : Option α := (ixN xs.length i).bind fun j => xs[j]?
def setAt {α : Type} (xs : List α) (i : Int) (x : α) : Option (List α) := (ixN xs.length i).bind fun j => some (xs.set j x)
def sIx (n d : Nat) : Option Int → Nat
  | none => d
  | some v => if v < 0 then (v + (n : Int)).toNat else min v.toNat n
def cut {α : Type} (xs : List α) (lo hi : Option Int) : List α := (xs.drop (sIx xs.length 0 lo)).take (sIx xs.length xs.length hi - sIx xs.length 0 lo)
def big : Nat := 1000000
def app {α : Type} (xs : List α) (x : α) : Option (List α) := if xs.length < big then some (xs ++ [x]) else none
def cat {α : Type} (xs ys : List α) : Option (List α) := if xs.length + ys.length ≤ big then some (xs ++ ys) else none
def mul (i j : Int) : Option Int := if (-(2 ^ 64) < i ∧ i < 2 ^ 64) ∨ (-(2 ^ 64) < j ∧ j < 2 ^ 64) then some (i * j) else none
def mod (i j : Int) : Option Int := if 0 < j then some (i % j) else none
def fdiv (i j : Int) : Option Int := if 0 < j ∧ j < 2 ^ 200 then some (i / j) else none
def guardO (c : Bool) : Option Unit := if c = true then some () else none
def smallI (i : Int) : Bool := decide (-(2 ^ 60) ≤ i) && decide (i < 2 ^ 60)
/-- range(lo, hi) -/
def rng (lo hi : Int) : List Int := (List.range (hi - lo).toNat).map fun (k : Nat) => lo + (k : Int)
/-- range(lo, hi, -1) -/
def rngDown (lo hi : Int) : List Int := (List.range (lo - hi).toNat).map fun (k : Nat) => lo - (k : Int)
/-- a for that runs through -/
def forN {α σ : Type} (f : σ → α → Option σ) : σ → List α → Option σ
  | s, [] => some s
  | s, x :: xs => (f s x).bind fun s' => forN f s' xs
/-- a for that may return (inl) -/
def forR {α σ ρ : Type} (f : σ → α → Option (ρ ⊕ σ)) : σ → List α → Option (ρ ⊕ σ)
  | s, [] => some (.inr s)
  | s, x :: xs => (f s x).bind fun
    | .inl r => some (.inl r)
    | .inr s' => forR f s' xs
/-- a for that may break (inl) -/
def forB {α σ : Type} (f : σ → α → Option (σ ⊕ σ)) : σ → List α → Option σ
  | s, [] => some s
  | s, x :: xs => (f s x).bind fun
    | .inl s' => some s'
    | .inr s' => forB f s' xs
/-- a comprehension: none of the inner option is an item left out; the state is what the items' making changes -/
def comp {α β σ : Type} (f : σ → α → Option (Option β × σ)) : σ → List α → Option (List β × σ)
  | s, [] => some ([], s)
  | s, x :: xs => (f s x).bind fun p => (comp f p.2 xs).bind fun q => some ((match p.1 with | some y => y :: q.1 | none => q.1), q.2)
/-- a comprehension that changes nothing -/
def comp0 {α β : Type} (f : α → Option (Option β)) : List α → Option (List β)
  | [] => some []
  | x :: xs => (f x).bind fun p => (comp0 f xs).bind fun q => some (match p with | some y => y :: q | none => q)
def whileN {σ : Type} (c : σ → Option Bool) (b : σ → Option σ) : Nat → σ → Option σ
  | 0, _ => none
  | n + 1, s => (c s).bind fun t => if t = true then (b s).bind fun s' => whileN c b n s' else some s
def whileR {σ ρ : Type} (c : σ → Option Bool) (b : σ → Option (ρ ⊕ σ)) : Nat → σ → Option (ρ ⊕ σ)
  | 0, _ => none
  | n + 1, s => (c s).bind fun t => if t = true then (b s).bind fun
      | .inl r => some (.inl r)
      | .inr s' => whileR c b n s'
    else some (.inr s)
theorem bnd {α β : Type} {m : Option α} {f : α → Option β} {r : β} (h : m.bind f = some r) : ∃ x, m = some x ∧ f x = some r := by
  cases m with
  | none => cases h
  | some x => exact ⟨x, rfl, h⟩
theorem letE {α β : Type} {e : α} {f : α → Option β} {r : Option β} (h : pyLet e f = r) : ∃ x, e = x ∧ f x = r := ⟨e, rfl, h⟩
theorem ifT {α : Type} {b : Bool} {x y : Option α} {r : Option α} (hb : b = true) (h : (if b = true then x else y) = r) : x = r := by
  rw [if_pos hb] at h; exact h
theorem ifF {α : Type} {b : Bool} {x y : Option α} {r : Option α} (hb : b = false) (h : (if b = true then x else y) = r) : y = r := by
  rw [hb, if_neg Bool.false_ne_true] at h; exact h
end Mi
namespace Mi
def rngO (lo hi : Int) : Option (List Int) := if (-(2 ^ 60) ≤ lo ∧ lo < 2 ^ 60) ∧ (-(2 ^ 60) ≤ hi ∧ hi < 2 ^ 60) then some (rng lo hi) else none
def rngDownO (lo hi : Int) : Option (List Int) := if (-(2 ^ 60) ≤ lo ∧ lo < 2 ^ 60) ∧ (-(2 ^ 60) ≤ hi ∧ hi < 2 ^ 60) then some (rngDown lo hi) else none
theorem forN_go {α σ : Type} {f : σ → α → Option σ} {s e : σ} {xs : List α} {i : Nat} {x : α} (h : forN f s (xs.drop i) = some e) (hx : xs[i]? = some x) : ∃ s', f s x = some s' ∧ forN f s' (xs.drop (i + 1)) = some e := by
  have hi : i < xs.length := (List.getElem?_eq_some_iff.mp hx).1
  have e1 : xs.drop i = x :: xs.drop (i + 1) := by
    rw [List.drop_eq_getElem_cons hi]
    congr 1
    exact (List.getElem?_eq_some_iff.mp hx).2
  rw [e1] at h
  exact bnd h
theorem forN_end {α σ : Type} {f : σ → α → Option σ} {s e : σ} {xs : List α} (h : forN f s (xs.drop xs.length) = some e) : s = e := by
  rw [List.drop_length] at h
  exact Option.some.inj h
theorem forR_go {α σ ρ : Type} {f : σ → α → Option (ρ ⊕ σ)} {s : σ} {e : ρ ⊕ σ} {xs : List α} {i : Nat} {x : α} (h : forR f s (xs.drop i) = some e) (hx : xs[i]? = some x) :
    ∃ o, f s x = some o ∧ ((∃ r, o = .inl r ∧ e = .inl r) ∨ ∃ s', o = .inr s' ∧ forR f s' (xs.drop (i + 1)) = some e) := by
  have hi : i < xs.length := (List.getElem?_eq_some_iff.mp hx).1
  have e1 : xs.drop i = x :: xs.drop (i + 1) := by
    rw [List.drop_eq_getElem_cons hi]
    congr 1
    exact (List.getElem?_eq_some_iff.mp hx).2
  rw [e1] at h
  obtain ⟨o, h1, h2⟩ := bnd h
  refine ⟨o, h1, ?_⟩
  cases o with
  | inl r => exact .inl ⟨r, rfl, (Option.some.inj h2).symm⟩
  | inr s' => exact .inr ⟨s', rfl, h2⟩
theorem forR_end {α σ ρ : Type} {f : σ → α → Option (ρ ⊕ σ)} {s : σ} {e : ρ ⊕ σ} {xs : List α} (h : forR f s (xs.drop xs.length) = some e) : e = .inr s := by
  rw [List.drop_length] at h
  exact (Option.some.inj h).symm
theorem forB_go {α σ : Type} {f : σ → α → Option (σ ⊕ σ)} {s e : σ} {xs : List α} {i : Nat} {x : α} (h : forB f s (xs.drop i) = some e) (hx : xs[i]? = some x) :
    ∃ o, f s x = some o ∧ ((o = .inl e) ∨ ∃ s', o = .inr s' ∧ forB f s' (xs.drop (i + 1)) = some e) := by
  have hi : i < xs.length := (List.getElem?_eq_some_iff.mp hx).1
  have e1 : xs.drop i = x :: xs.drop (i + 1) := by
    rw [List.drop_eq_getElem_cons hi]
    congr 1
    exact (List.getElem?_eq_some_iff.mp hx).2
  rw [e1] at h
  obtain ⟨o, h1, h2⟩ := bnd h
  refine ⟨o, h1, ?_⟩
  cases o with
  | inl r => exact .inl (by rw [Option.some.inj h2])
  | inr s' => exact .inr ⟨s', rfl, h2⟩
theorem forB_end {α σ : Type} {f : σ → α → Option (σ ⊕ σ)} {s e : σ} {xs : List α} (h : forB f s (xs.drop xs.length) = some e) : s = e := by
  rw [List.drop_length] at h
  exact Option.some.inj h
end Mi
namespace Mi
def orR {ρ σ : Type} (o : ρ ⊕ σ) (k : σ → Option ρ) : Option ρ := match o with
  | .inl r => some r
  | .inr s => k s
def orL {ρ σ τ : Type} (o : ρ ⊕ σ) (k : σ → Option (ρ ⊕ τ)) : Option (ρ ⊕ τ) := match o with
  | .inl r => some (.inl r)
  | .inr s => k s
theorem orR_inl {ρ σ : Type} {r q : ρ} {k : σ → Option ρ} (h : orR (.inl r) k = some q) : some r = some q := h
theorem orR_inr {ρ σ : Type} {s : σ} {q : ρ} {k : σ → Option ρ} (h : orR (.inr s) k = some q) : k s = some q := h
theorem orL_inl {ρ σ τ : Type} {r : ρ} {q : ρ ⊕ τ} {k : σ → Option (ρ ⊕ τ)} (h : orL (.inl r) k = some q) : some (.inl r) = some q := h
theorem orL_inr {ρ σ τ : Type} {s : σ} {q : ρ ⊕ τ} {k : σ → Option (ρ ⊕ τ)} (h : orL (.inr s) k = some q) : k s = some q := h
theorem or_inl {ρ σ : Type} {r : ρ} {e : ρ ⊕ σ} {P : σ → Prop} (h : (∃ r', (Sum.inl r : ρ ⊕ σ) = .inl r' ∧ e = .inl r') ∨ ∃ s', (Sum.inl r : ρ ⊕ σ) = .inr s' ∧ P s') : e = .inl r := by
  rcases h with ⟨r', h1, h2⟩ | ⟨s', h1, _⟩
  · cases h1; exact h2
  · cases h1
theorem or_inr {ρ σ : Type} {s : σ} {e : ρ ⊕ σ} {P : σ → Prop} (h : (∃ r', (Sum.inr s : ρ ⊕ σ) = .inl r' ∧ e = .inl r') ∨ ∃ s', (Sum.inr s : ρ ⊕ σ) = .inr s' ∧ P s') : P s := by
  rcases h with ⟨r', h1, h2⟩ | ⟨s', h1, h2⟩
  · cases h1
  · cases h1; exact h2
end Mi
namespace Mi
def shl (i j : Int) : Option Int := if 0 ≤ j ∧ j ≤ 1000 ∧ -(2 ^ 64) < i ∧ i < 2 ^ 64 then some (i * 2 ^ j.toNat) else none
def shr (i j : Int) : Option Int := if 0 ≤ j then some (i / 2 ^ j.toNat) else none
def sortI (xs : List Int) : List Int := xs.mergeSort fun a b => decide (a ≤ b)
def sadd (xs : List Int) (k : Int) : Option (List Int) := if xs.length < 4000 then some (if xs.contains k = true then xs else xs ++ [k]) else none
def popL {α : Type} (xs : List α) : Option (α × List α) := (xs[xs.length - 1]?).bind fun y => some (y, xs.dropLast)
def popAt {α : Type} (xs : List α) (i : Int) : Option (α × List α) := (ixN xs.length i).bind fun j => (xs[j]?).bind fun y => some (y, xs.eraseIdx j)
def lMin (xs : List Int) : Option Int := xs.head?.map fun x => xs.foldl min x
def lMax (xs : List Int) : Option Int := xs.head?.map fun x => xs.foldl max x
/-- enumerate -/
def enumF {α : Type} : Int → List α → List (Int × α)
  | _, [] => []
  | k, x :: xs => (k, x) :: enumF (k + 1) xs
end Mi
namespace Mi
/-! ### texts: lists of code points -/
def sLen (s : List Nat) : Option Int := if s.length ≤ big then some (s.length : Int) else none
def sAt (s : List Nat) (i : Int) : Option (List Nat) := if s.length ≤ big then (at_ s i).map fun c => [c] else none
def sCut (s : List Nat) (lo hi : Option Int) : Option (List Nat) := if s.length ≤ big then some (cut s lo hi) else none
def sCat (a b : List Nat) : Option (List Nat) := if a.length + b.length ≤ big then some (a ++ b) else none
def sIn (a s : List Nat) : Option Bool := match a with
  | [c] => some (s.contains c)
  | _ => none
def joinL (sep : List Nat) : List (List Nat) → List Nat
  | [] => []
  | [p] => p
  | p :: q :: r => p ++ (sep ++ joinL sep (q :: r))
def sJoin (sep : List Nat) (xs : List (List Nat)) : Option (List Nat) := if (xs.map (·.length)).sum + xs.length * sep.length ≤ big then some (joinL sep xs) else none
def signs (s : List Nat) : List (List Nat) := s.map fun c => [c]
def okS (s : List Nat) : Bool := s.all fun c => decide (c < 1114112)
def bI (b : Bool) : Int := if b = true then 1 else 0
end Mi
namespace Mi
/-- xs[i].append(x) -/
def appIn {α : Type} (xs : List (List α)) (i : Int) (x : α) : Option (List (List α)) := (ixN xs.length i).bind fun j => (xs[j]?).bind fun row => (app row x).bind fun ys => some (xs.set j ys)
def leP (a b : Int × Int) : Bool := decide (a.1 < b.1 ∨ (a.1 = b.1 ∧ a.2 ≤ b.2))
def sortP (xs : List (Int × Int)) : List (Int × Int) := xs.mergeSort leP
def saddP (xs : List (Int × Int)) (k : Int × Int) : Option (List (Int × Int)) := if xs.length < 70 then some (if xs.contains k = true then xs else xs ++ [k]) else none
def repL {α : Type} (xs : List α) (k : Int) : Option (List α) := if -(2 ^ 60) ≤ k ∧ k < 2 ^ 60 ∧ xs.length * k.toNat ≤ big then some (List.replicate k.toNat xs).flatten else none
def lIdx {α : Type} [BEq α] (xs : List α) (x : α) : Option Int := if xs.contains x = true then some ((xs.idxOf x : Nat) : Int) else none
def rngL (lo hi : Int) : Option (List Int) := if (-(2 ^ 60) ≤ lo ∧ lo < 2 ^ 60) ∧ (-(2 ^ 60) ≤ hi ∧ hi < 2 ^ 60) ∧ (hi - lo).toNat ≤ 1000000 then some (rng lo hi) else none
end Mi
namespace Mi
def evens {α : Type} : List α → List α
  | [] => []
  | [x] => [x]
  | x :: _ :: r => x :: evens r
def ext {α : Type} (xs ys : List α) : Option (List α) := if xs.length + ys.length ≤ big then some (xs ++ ys) else none
end Mi

namespace Mi
def m_ascending_0 (d0 : (List Int)) : Option (List Int) :=
  some (Mi.sortI d0)
def m_ascending_1 (d0 : (List Int)) : Option (List Int) :=
  some (Mi.sortI d0)
def m_is_zone_0_b1 (d1 : Int) (s11 : (List Int)) (x14 : Int) : Option (Bool ⊕ (List Int)) :=
  if ((decide (x14 < (0 : Int))) || ((decide (d1 ≤ x14)) || (s11.contains x14))) = true then
  (some (.inl false))
  else
  (sadd s11 x14).bind fun x21 =>
  some (.inr x21)
def m_is_zone_0 (d0 : (List Int)) (d1 : Int) : Option Bool :=
  (forR (m_is_zone_0_b1 d1) ([] : List Int) d0).bind fun e10 => orR e10 fun s11 =>
  some true
def m_is_zone_1_b1 (d1 : Int) (s10 : (List Int)) (x13 : Int) : Option (Bool ⊕ (List Int)) :=
  if ((decide (x13 < (0 : Int))) || ((decide (d1 ≤ x13)) || (s10.contains x13))) = true then
  (some (.inl false))
  else
  (sadd s10 x13).bind fun x20 =>
  some (.inr x20)
def m_is_zone_1 (d0 : (List Int)) (d1 : Int) : Option Bool :=
  (forR (m_is_zone_1_b1 d1) ([] : List Int) d0).bind fun e9 => orR e9 fun s10 =>
  some true
def m_Report_init_0 (d1 : Int) (d2 : Int) (d3 : (List Int)) (d4 : Int) (d5 : Bool) : Option (Int × Int × (List Int) × Int × Bool) :=
  if ((decide (d1 < (0 : Int))) || (decide ((3 : Int) < d1))) = true then
  (none)
  else
  if ((decide (d2 < (0 : Int))) || (decide ((24 : Int) < d2))) = true then
  (none)
  else
  (m_is_zone_0 d3 (12 : Int)).bind fun q9 =>
  if (!q9) = true then
  (none)
  else
  if ((decide (d4 < (1 : Int))) || (decide ((99 : Int) < d4))) = true then
  (none)
  else
  (m_ascending_0 d3).bind fun q17 =>
  some (d1, d2, q17, d4, d5)
def m_Report_init_1 (d1 : Int) (d2 : Int) (d3 : (List Int)) (d4 : Int) (d5 : Bool) : Option (Int × Int × (List Int) × Int × Bool) :=
  if ((decide (d1 < (0 : Int))) || (decide ((3 : Int) < d1))) = true then
  (none)
  else
  if ((decide (d2 < (0 : Int))) || (decide ((24 : Int) < d2))) = true then
  (none)
  else
  (m_is_zone_1 d3 (12 : Int)).bind fun q9 =>
  if (!q9) = true then
  (none)
  else
  if ((decide (d4 < (1 : Int))) || (decide ((99 : Int) < d4))) = true then
  (none)
  else
  (m_ascending_1 d3).bind fun q17 =>
  some (d1, d2, q17, d4, d5)
def m_Report_allows (d0 : (Int × Int × (List Int) × Int × Bool)) (d1 : Int) : Option Bool :=
  some (decide ((d0.2.2.1.contains d1) = d0.2.2.2.2))
def m_allowed_by_all_b2 (x19 : Int) (s23 : (List (Int × Int × (List Int) × Int × Bool))) (x34 : (Int × Int × (List Int) × Int × Bool)) : Option (List (Int × Int × (List Int) × Int × Bool)) :=
  (m_Report_allows x34 x19).bind fun q43 =>
  if (!q43) = true then ((app s23 x34).bind fun x46 =>
  some x46) else (some s23)
def m_allowed_by_all_b1 (d1 : (List (Int × Int × (List Int) × Int × Bool))) (s16 : (List Int)) (x19 : Int) : Option (List Int) :=
  ((forN (m_allowed_by_all_b2 x19) ([] : (List (Int × Int × (List Int) × Int × Bool))) d1).bind fun s23 =>
  if (decide ((s23.length : Int) = (0 : Int))) = true then ((app s16 x19).bind fun x49 =>
  some x49) else (some s16) : Option (List Int)).bind fun s21 =>
  some s21
def m_allowed_by_all (d0 : (Int × (List Int) × (List (Int × Int)) × (List Int) × (List Int) × (List (List Int)))) (d1 : (List (Int × Int × (List Int) × Int × Bool))) : Option (List Int) :=
  (rngO 0 d0.1).bind fun g14 =>
  (forN (m_allowed_by_all_b1 d1) ([] : (List Int)) g14).bind fun s16 =>
  some s16
def m_corridor_of_0_b1 (d3 : Int) (s6 : (List (Int × Int × (List Int) × Int × Bool))) (x16 : (Int × Int × (List Int) × Int × Bool)) : Option (List (Int × Int × (List Int) × Int × Bool)) :=
  if (decide (x16.1 = d3)) = true then ((app s6 x16).bind fun x29 =>
  some x29) else (some s6)
def m_corridor_of_0_b3 (x51 : Int) (s54 : (List (Int × Int × (List Int) × Int × Bool))) (x66 : (Int × Int × (List Int) × Int × Bool)) : Option (List (Int × Int × (List Int) × Int × Bool)) :=
  if (decide (x66.2.1 = x51)) = true then ((app s54 x66).bind fun x79 =>
  some x79) else (some s54)
def m_corridor_of_0_b2 (d0 : (Int × (List Int) × (List (Int × Int)) × (List Int) × (List Int) × (List (List Int)))) (s6 : (List (Int × Int × (List Int) × Int × Bool))) (s42 : (List (List Int))) (x51 : Int) : Option (List (List Int)) :=
  (forN (m_corridor_of_0_b3 x51) ([] : (List (Int × Int × (List Int) × Int × Bool))) s6).bind fun s54 =>
  (m_allowed_by_all d0 s54).bind fun q82 =>
  (app s42 q82).bind fun x93 =>
  some x93
def m_corridor_of_0 (d0 : (Int × (List Int) × (List (Int × Int)) × (List Int) × (List Int) × (List (List Int)))) (d1 : Int) (d2 : (List (Int × Int × (List Int) × Int × Bool))) (d3 : Int) : Option (List (List Int)) :=
  (forN (m_corridor_of_0_b1 d3) ([] : (List (Int × Int × (List Int) × Int × Bool))) d2).bind fun s6 =>
  (rngO 0 (d1 + (1 : Int))).bind fun g40 =>
  (forN (m_corridor_of_0_b2 d0 s6) ([] : (List (List Int))) g40).bind fun s42 =>
  some s42
def m_corridor_of_1_b1 (d3 : Int) (s6 : (List (Int × Int × (List Int) × Int × Bool))) (x15 : (Int × Int × (List Int) × Int × Bool)) : Option (List (Int × Int × (List Int) × Int × Bool)) :=
  if (decide (x15.1 = d3)) = true then ((app s6 x15).bind fun x28 =>
  some x28) else (some s6)
def m_corridor_of_1_b3 (x48 : Int) (s51 : (List (Int × Int × (List Int) × Int × Bool))) (x62 : (Int × Int × (List Int) × Int × Bool)) : Option (List (Int × Int × (List Int) × Int × Bool)) :=
  if (decide (x62.2.1 = x48)) = true then ((app s51 x62).bind fun x75 =>
  some x75) else (some s51)
def m_corridor_of_1_b2 (d0 : (Int × (List Int) × (List (Int × Int)) × (List Int) × (List Int) × (List (List Int)))) (s6 : (List (Int × Int × (List Int) × Int × Bool))) (s40 : (List (List Int))) (x48 : Int) : Option (List (List Int)) :=
  (forN (m_corridor_of_1_b3 x48) ([] : (List (Int × Int × (List Int) × Int × Bool))) s6).bind fun s51 =>
  (m_allowed_by_all d0 s51).bind fun q78 =>
  (app s40 q78).bind fun x88 =>
  some x88
def m_corridor_of_1 (d0 : (Int × (List Int) × (List (Int × Int)) × (List Int) × (List Int) × (List (List Int)))) (d1 : Int) (d2 : (List (Int × Int × (List Int) × Int × Bool))) (d3 : Int) : Option (List (List Int)) :=
  (forN (m_corridor_of_1_b1 d3) ([] : (List (Int × Int × (List Int) × Int × Bool))) d2).bind fun s6 =>
  (rngO 0 (d1 + (1 : Int))).bind fun g38 =>
  (forN (m_corridor_of_1_b2 d0 s6) ([] : (List (List Int))) g38).bind fun s40 =>
  some s40
def m_good_numbers_b1 (d2 : Int) (s6 : Unit) (x9 : Int) : Option (Bool ⊕ Unit) :=
  if ((decide (x9 < (0 : Int))) || (decide (d2 < x9))) = true then
  (some (.inl false))
  else
  some (.inr ())
def m_good_numbers (d0 : (List Int)) (d1 : Int) (d2 : Int) : Option Bool :=
  if ((decide ((d0.length : Int) < (1 : Int))) || (decide (d1 < (d0.length : Int)))) = true then
  (some false)
  else
  (forR (m_good_numbers_b1 d2) () d0).bind fun e5 => orR e5 fun s6 =>
  some true
def m_good_depths (d0 : (List Int)) : Option Bool :=
  (m_good_numbers d0 (12 : Int) (99 : Int)).bind fun q2 =>
  some q2
def m_good_lanes_b1 (d1 : Int) (s11 : (List (Int × Int))) (x17 : (Int × Int)) : Option (Bool ⊕ (List (Int × Int))) :=
  pyLet ((min x17.1 x17.2) : Int) fun low26 =>
  pyLet ((max x17.1 x17.2) : Int) fun high27 =>
  ( if (decide (low26 < (0 : Int))) = true then some true else  if (decide (d1 ≤ high27)) = true then some true else  if (decide (low26 = high27)) = true then some true else some (s11.contains (low26, high27)) : Option Bool).bind fun b28 =>
  if b28 = true then
  (some (.inl false))
  else
  (saddP s11 (low26, high27)).bind fun x39 =>
  some (.inr x39)
def m_good_lanes (d0 : (List (Int × Int))) (d1 : Int) : Option Bool :=
  (forR (m_good_lanes_b1 d1) ([] : List (Int × Int)) d0).bind fun e10 => orR e10 fun s11 =>
  some true
def m_good_tide (d0 : (List Int)) : Option Bool :=
  (m_good_numbers d0 (12 : Int) (20 : Int)).bind fun q2 =>
  some q2
def m_good_harbours (d0 : (List Int)) (d1 : Int) : Option Bool :=
  (m_is_zone_0 d0 d1).bind fun q3 =>
  some q3
def m_ordered_lanes_b1  (s3 : (List (Int × Int))) (x13 : (Int × Int)) : Option (List (Int × Int)) :=
  (app s3 ((min x13.1 x13.2), (max x13.1 x13.2))).bind fun x31 =>
  some x31
def m_ordered_lanes (d0 : (List (Int × Int))) : Option (List (Int × Int)) :=
  (forN (m_ordered_lanes_b1) ([] : (List (Int × Int))) d0).bind fun s3 =>
  some (Mi.sortP s3)
def m_joined_places_b1  (s5 : (List (List Int))) (x15 : Int) : Option (List (List Int)) :=
  (app s5 ([] : (List Int))).bind fun x31 =>
  some x31
def m_joined_places_b2  (s41 : (List (List Int))) (x45 : (Int × Int)) : Option (List (List Int)) :=
  (at_ s41 x45.1).bind fun x53 =>
  (appIn s41 x45.1 x45.2).bind fun x54 =>
  (at_ x54 x45.2).bind fun x62 =>
  (appIn x54 x45.2 x45.1).bind fun x63 =>
  some x63
def m_joined_places_b3  (s72 : (List (List Int))) (x82 : (List Int)) : Option (List (List Int)) :=
  (app s72 x82).bind fun x97 =>
  some x97
def m_joined_places (d0 : Int) (d1 : (List (Int × Int))) : Option (List (List Int)) :=
  (rngO 0 d0).bind fun g3 =>
  (forN (m_joined_places_b1) ([] : (List (List Int))) g3).bind fun s5 =>
  (forN (m_joined_places_b2) s5 d1).bind fun s41 =>
  (forN (m_joined_places_b3) ([] : (List (List Int))) s41).bind fun s72 =>
  some s72
def m_Chart_init (d1 : (List Int)) (d2 : (List (Int × Int))) (d3 : (List Int)) (d4 : (List Int)) : Option (Int × (List Int) × (List (Int × Int)) × (List Int) × (List Int) × (List (List Int))) :=
  (m_good_depths d1).bind fun q6 =>
  if (!q6) = true then
  (none)
  else
  (m_good_lanes d2 (d1.length : Int)).bind fun q9 =>
  if (!q9) = true then
  (none)
  else
  (m_good_tide d3).bind fun q12 =>
  if (!q12) = true then
  (none)
  else
  (m_good_harbours d4 (d1.length : Int)).bind fun q15 =>
  if (!q15) = true then
  (none)
  else
  (m_ordered_lanes d2).bind fun q26 =>
  (m_joined_places (d1.length : Int) q26).bind fun q56 =>
  some ((d1.length : Int), d1, q26, d3, (Mi.sortI d4), q56)
def m_Chart_neighbours (d0 : (Int × (List Int) × (List (Int × Int)) × (List Int) × (List Int) × (List (List Int)))) (d1 : Int) : Option (List Int) :=
  (at_ d0.2.2.2.2.2 d1).bind fun x7 =>
  some x7
def m_l_hand (d0 : (List Int)) (d1 : Int) : Option (List Int) :=
  pyLet ((0 : Int) : Int) fun cell3 =>
  (if (decide (d1 < (d0.length : Int))) = true then ((at_ d0 d1).bind fun x5 =>
  pyLet (x5 : Int) fun cell6 =>
  some cell6) else (some cell3) : Option Int).bind fun s4 =>
  (if (decide (s4 < (0 : Int))) = true then (pyLet (((1 : Int) - ((2 : Int) * s4)) : Int) fun cell8 =>
  some cell8) else (some s4) : Option Int).bind fun s7 =>
  pyLet ((0 : Int) : Int) fun rest9 =>
  (if (decide (((10 : Int) ^ 18) ≤ s7)) = true then (pyLet (s7 : Int) fun rest11 =>
  some rest11) else (some rest9) : Option Int).bind fun s10 =>
  some [s10, (((s7 + ((7919 : Int) * d1)) + (13 : Int)) % (2147483647 : Int)), (0 : Int)]
def m_l_pick (d0 : (List Int)) (d1 : Int) : Option (Int × (List Int)) :=
  if (decide (d1 < (1 : Int))) = true then
  (some ((0 : Int), d0))
  else
  (at_ d0 (0 : Int)).bind fun x3 =>
  if (decide ((0 : Int) < x3)) = true then
  ((at_ d0 (0 : Int)).bind fun x4 =>
  (mod x4 d1).bind fun x5 =>
  pyLet (x5 : Int) fun digit6 =>
  (at_ d0 (0 : Int)).bind fun x7 =>
  (fdiv x7 d1).bind fun x8 =>
  (setAt d0 (0 : Int) x8).bind fun x9 =>
  some (digit6, x9))
  else
  (at_ d0 (2 : Int)).bind fun x12 =>
  (setAt d0 (2 : Int) (x12 + (1 : Int))).bind fun x13 =>
  (at_ x13 (1 : Int)).bind fun x16 =>
  (at_ x13 (2 : Int)).bind fun x17 =>
  pyLet ((((x16 + ((7919 : Int) * x17)) + (13 : Int)) % (2147483647 : Int)) : Int) fun mixed18 =>
  (mul mixed18 (mixed18 + (48271 : Int))).bind fun x19 =>
  pyLet ((x19 % (2147483629 : Int)) : Int) fun mixed20 =>
  (mul mixed20 (mixed20 + (69621 : Int))).bind fun x21 =>
  (at_ x13 (2 : Int)).bind fun x22 =>
  pyLet (((x21 + ((31 : Int) * x22)) % (2147483647 : Int)) : Int) fun mixed23 =>
  (mod (mixed23 / (9 : Int)) d1).bind fun x24 =>
  some (x24, x13)
def m_l_int_0 (d0 : Int) : Option Bool :=
  some (true && (!false))
def m_l_int_1 (d0 : (Option Int)) : Option Bool :=
  some ((d0.isSome && true) && (!(d0.isSome && false)))
def m_l_some_b1 (d2 : Int) (s13 : ((List Int) × (List Int))) (x16 : Int) : Option ((List Int) × (List Int)) :=
  ((m_l_pick s13.1 d2).bind fun q19 =>
  if (decide (q19.1 = (0 : Int))) = true then ((app s13.2 x16).bind fun x22 =>
  some (q19.2, x22)) else (some (q19.2, s13.2)) : Option ((List Int) × (List Int))).bind fun s18 =>
  some (s18.1, s18.2)
def m_l_some (d0 : (List Int)) (d1 : Int) (d2 : Int) : Option ((List Int) × (List Int)) :=
  (rngO 0 d1).bind fun g11 =>
  (forN (m_l_some_b1 d2) (d0, ([] : (List Int))) g11).bind fun s13 =>
  some (s13.2, s13.1)
def m_l_sea_b2 (x54 : Int) (s64 : ((List Int) × (List (Int × Int)))) (x67 : Int) : Option ((List Int) × (List (Int × Int))) :=
  ((m_l_pick s64.1 (4 : Int)).bind fun q70 =>
  if (decide ((0 : Int) < q70.1)) = true then ((app s64.2 (x67, x54)).bind fun x78 =>
  some (q70.2, x78)) else (some (q70.2, s64.2)) : Option ((List Int) × (List (Int × Int)))).bind fun s69 =>
  some (s69.1, s69.2)
def m_l_sea_b1 (x17 : Int) (s50 : ((List Int) × (List Int) × (List (Int × Int)))) (x54 : Int) : Option ((List Int) × (List Int) × (List (Int × Int))) :=
  (m_l_pick s50.1 x17).bind fun q56 =>
  (app s50.2.1 q56.1).bind fun x59 =>
  (rngO 0 x54).bind fun g62 =>
  (forN (m_l_sea_b2 x54) (q56.2, s50.2.2) g62).bind fun s64 =>
  some (s64.1, x59, s64.2)
def m_l_sea_b3 (x30 : Int) (s95 : ((List Int) × (List Int))) (x98 : Int) : Option ((List Int) × (List Int)) :=
  (m_l_pick s95.1 x30).bind fun q100 =>
  (app s95.2 q100.1).bind fun x103 =>
  some (q100.2, x103)
def m_l_sea (d0 : (List Int)) (d1 : Int) : Option (((List Int) × (List (Int × Int)) × (List Int) × (List Int)) × (List Int)) :=
  (m_l_pick d0 d1).bind fun q3 =>
  pyLet (((1 : Int) + q3.1) : Int) fun size6 =>
  (m_l_pick q3.2 (3 : Int)).bind fun q14 =>
  (at_ [(2 : Int), (6 : Int), (100 : Int)] q14.1).bind fun x17 =>
  (m_l_pick q14.2 (3 : Int)).bind fun q27 =>
  (at_ [(1 : Int), (4 : Int), (21 : Int)] q27.1).bind fun x30 =>
  (rngO 0 size6).bind fun g48 =>
  (forN (m_l_sea_b1 x17) (q27.2, ([] : (List Int)), ([] : (List (Int × Int)))) g48).bind fun s50 =>
  (m_l_pick s50.1 (3 : Int)).bind fun q90 =>
  (rngO 0 q90.1).bind fun g93 =>
  (forN (m_l_sea_b3 x30) (q90.2, [(0 : Int)]) g93).bind fun s95 =>
  (m_l_some s95.1 size6 (4 : Int)).bind fun q106 =>
  some ((s50.2.1, s50.2.2, s95.2, q106.1), q106.2)
def m_l_chart (d0 : ((List Int) × (List (Int × Int)) × (List Int) × (List Int))) : Option (Int × (List Int) × (List (Int × Int)) × (List Int) × (List Int) × (List (List Int))) :=
  (m_Chart_init (d0.1, d0.2.1, d0.2.2.1, d0.2.2.2).1 (d0.1, d0.2.1, d0.2.2.1, d0.2.2.2).2.1 (d0.1, d0.2.1, d0.2.2.1, d0.2.2.2).2.2.1 (d0.1, d0.2.1, d0.2.2.1, d0.2.2.2).2.2.2).bind fun q123 =>
  some q123
def m_l_corridor_b2 (d2 : Int) (x27 : Int) (s30 : (List (Int × Int × (List Int) × Int × Bool))) (x43 : (Int × Int × (List Int) × Int × Bool)) : Option (List (Int × Int × (List Int) × Int × Bool)) :=
  if ((decide (x43.1 = d2)) && (decide (x43.2.1 = x27))) = true then ((app s30 x43).bind fun x66 =>
  some x66) else (some s30)
def m_l_corridor_b4 (x95 : Int) (s99 : (List (Int × Int × (List Int) × Int × Bool))) (x114 : (Int × Int × (List Int) × Int × Bool)) : Option (List (Int × Int × (List Int) × Int × Bool)) :=
  if (!(decide ((x114.2.2.1.contains x95) = x114.2.2.2.2))) = true then ((app s99 x114).bind fun x139 =>
  some x139) else (some s99)
def m_l_corridor_b3 (s30 : (List (Int × Int × (List Int) × Int × Bool))) (s92 : (List Int)) (x95 : Int) : Option (List Int) :=
  ((forN (m_l_corridor_b4 x95) ([] : (List (Int × Int × (List Int) × Int × Bool))) s30).bind fun s99 =>
  if (decide ((s99.length : Int) = (0 : Int))) = true then ((app s92 x95).bind fun x146 =>
  some x146) else (some s92) : Option (List Int)).bind fun s97 =>
  some s97
def m_l_corridor_b1 (d0 : ((List Int) × (List (Int × Int)) × (List Int) × (List Int))) (d1 : (List (Int × Int × (List Int) × Int × Bool))) (d2 : Int) (s15 : (List (List Int))) (x27 : Int) : Option (List (List Int)) :=
  (forN (m_l_corridor_b2 d2 x27) ([] : (List (Int × Int × (List Int) × Int × Bool))) d1).bind fun s30 =>
  (rngO 0 (d0.1.length : Int)).bind fun g90 =>
  (forN (m_l_corridor_b3 s30) ([] : (List Int)) g90).bind fun s92 =>
  (app s15 s92).bind fun x149 =>
  some x149
def m_l_corridor (d0 : ((List Int) × (List (Int × Int)) × (List Int) × (List Int))) (d1 : (List (Int × Int × (List Int) × Int × Bool))) (d2 : Int) (d3 : Int) : Option (List (List Int)) :=
  (rngO 0 d3).bind fun g13 =>
  (forN (m_l_corridor_b1 d0 d1 d2) ([] : (List (List Int))) g13).bind fun s15 =>
  some s15
def m_l_places_b1 (s8 : Int) (s13 : (List Int)) (x22 : Int) : Option (List Int) :=
  (shr s8 x22).bind fun x31 =>
  if (decide ((x31 % (2 : Int)) = (1 : Int))) = true then ((app s13 x22).bind fun x32 =>
  some x32) else (some s13)
def m_l_places (d0 : Int) : Option (List Int) :=
  pyLet ((d0 % (6 : Int)) : Int) fun kind2 =>
  pyLet ((d0 / (6 : Int)) : Int) fun bits3 =>
  (if (decide (kind2 = (0 : Int))) = true then (pyLet ((0 : Int) : Int) fun bits5 =>
  some bits5) else (some bits3) : Option Int).bind fun s4 =>
  (if (decide (kind2 = (1 : Int))) = true then (pyLet ((4095 : Int) : Int) fun bits7 =>
  some bits7) else (some s4) : Option Int).bind fun s6 =>
  (if (decide (kind2 = (2 : Int))) = true then ((shl (1 : Int) (s6 % (12 : Int))).bind fun x9 =>
  pyLet (x9 : Int) fun bits10 =>
  some bits10) else (some s6) : Option Int).bind fun s8 =>
  (rngO 0 (12 : Int)).bind fun g11 =>
  (forN (m_l_places_b1 s8) ([] : (List Int)) g11).bind fun s13 =>
  some s13
def m_l_turned (d0 : Int) (d1 : (List Int)) : Option (List Int) :=
  (mod (d0 / (2 : Int)) (max (1 : Int) (d1.length : Int))).bind fun x3 =>
  pyLet (x3 : Int) fun spot4 =>
  (cat (Mi.cut d1 (some spot4) none) (Mi.cut d1 none (some spot4))).bind fun x20 =>
  (if (decide ((d0 % (2 : Int)) = (1 : Int))) = true then (some x20.reverse) else (some x20) : Option (List Int)).bind fun s30 =>
  some s30
def m_l_wild_b1 (d2 : Int) (d3 : Int) (s14 : ((List Int) × (List (Int × Int × (List Int) × Int × Bool)))) (x26 : Int) : Option ((List Int) × (List (Int × Int × (List Int) × Int × Bool))) :=
  (m_l_pick s14.1 (12 : Int)).bind fun q28 =>
  (m_l_pick q28.2 (100 : Int)).bind fun q31 =>
  (m_l_pick q31.2 (24576 : Int)).bind fun q34 =>
  (m_l_places q34.1).bind fun q37 =>
  (m_l_pick q34.2 (198 : Int)).bind fun q47 =>
  (if (decide ((3 : Int) < q28.1)) = true then (pyLet (d3 : Int) fun who51 =>
  some who51) else (some q28.1) : Option Int).bind fun s50 =>
  (if (decide (q31.1 < (75 : Int))) = true then ((mod q31.1 (d2 + (1 : Int))).bind fun x53 =>
  pyLet (x53 : Int) fun when54 =>
  some when54) else (pyLet ((q31.1 - (75 : Int)) : Int) fun when55 =>
  some when55) : Option Int).bind fun s52 =>
  (app s14.2 (s50, s52, q37, ((1 : Int) + (q47.1 / (2 : Int))), (decide ((q47.1 % (2 : Int)) = (0 : Int))))).bind fun x63 =>
  some (q47.2, x63)
def m_l_wild (d0 : (List Int)) (d1 : Int) (d2 : Int) (d3 : Int) : Option ((List (Int × Int × (List Int) × Int × Bool)) × (List Int)) :=
  (rngO 0 d1).bind fun g12 =>
  (forN (m_l_wild_b1 d2 d3) (d0, ([] : (List (Int × Int × (List Int) × Int × Bool)))) g12).bind fun s14 =>
  some (s14.2, s14.1)
def m_l_flag (d0 : Bool) (d1 : Bool) : Option Bool :=
  if d1 = true then
  (some (decide (d0 = true)))
  else
  some (decide (d0 = false))
def m_l_report (d0 : Int) (d1 : (Int × Int × (List Int) × Int × Bool)) : Option (Int × Int × (List Int) × Int × Bool) :=
  (m_l_turned (d0 / (2 : Int)) d1.2.2.1).bind fun q9 =>
  if (decide ((d0 % (2 : Int)) = (1 : Int))) = true then
  ((m_Report_init_1 d1.1 d1.2.1 q9 d1.2.2.2.1 d1.2.2.2.2).bind fun q56 =>
  some q56)
  else
  (m_Report_init_0 d1.1 d1.2.1 q9 d1.2.2.2.1 d1.2.2.2.2).bind fun q94 =>
  (app q9 (3 : Int)).bind fun x98 =>
  (app x98 (3 : Int)).bind fun x101 =>
  some q94
def m_l_keeps_b1  (s35 : (List Int)) (x45 : Int) : Option (List Int) :=
  (m_l_int_0 x45).bind fun q54 =>
  if (!q54) = true then ((app s35 x45).bind fun x57 =>
  some x57) else (some s35)
def m_l_keeps_b2 (d0 : (Int × Int × (List Int) × Int × Bool)) (d1 : (Int × Int × (List Int) × Int × Bool)) (s135 : Unit) (x138 : Int) : Option (Bool ⊕ Unit) :=
  (m_Report_allows d0 x138).bind fun q141 =>
  (m_l_flag q141 (decide ((d1.2.2.1.contains x138) = d1.2.2.2.2))).bind fun q156 =>
  if (!q156) = true then
  (some (.inl false))
  else
  some (.inr ())
def m_l_keeps (d0 : (Int × Int × (List Int) × Int × Bool)) (d1 : (Int × Int × (List Int) × Int × Bool)) : Option Bool :=
  ((m_l_int_0 d0.1).bind fun q8 => if (!q8) = true then some true else (m_l_int_0 d0.2.1).bind fun q15 => if (!q15) = true then some true else (m_l_int_0 d0.2.2.2.1).bind fun q22 => some (!q22) : Option Bool).bind fun b3 =>
  if b3 = true then
  (some false)
  else
  ( if (!true) = true then some true else (forN (m_l_keeps_b1) ([] : (List Int)) d0.2.2.1).bind fun s35 => some (decide ((0 : Int) < (s35.length : Int))) : Option Bool).bind fun b25 =>
  if b25 = true then
  (some false)
  else
  if (!(decide ((d0.1, d0.2.1, d0.2.2.1, d0.2.2.2.1) = (d1.1, d1.2.1, d1.2.2.1, d1.2.2.2.1)))) = true then
  (some false)
  else
  (m_l_flag d0.2.2.2.2 d1.2.2.2.2).bind fun q130 =>
  if (!q130) = true then
  (some false)
  else
  (rngO 0 (12 : Int)).bind fun g133 =>
  (forR (m_l_keeps_b2 d0 d1) () g133).bind fun e134 => orR e134 fun s135 =>
  some true
def m_l_all_keep_b1 (d0 : (List (Int × Int × (List Int) × Int × Bool))) (d1 : (List (Int × Int × (List Int) × Int × Bool))) (s5 : (List Int)) (x16 : Int) : Option (List Int) :=
  (at_ d0 x16).bind fun x25 =>
  (at_ d1 x16).bind fun x29 =>
  (m_l_keeps x25 x29).bind fun q38 =>
  if (!q38) = true then ((app s5 x16).bind fun x41 =>
  some x41) else (some s5)
def m_l_all_keep (d0 : (List (Int × Int × (List Int) × Int × Bool))) (d1 : (List (Int × Int × (List Int) × Int × Bool))) : Option Bool :=
  if (!(decide ((d0.length : Int) = (d1.length : Int)))) = true then
  (some false)
  else
  (rngO 0 (d1.length : Int)).bind fun g3 =>
  (forN (m_l_all_keep_b1 d0 d1) ([] : (List Int)) g3).bind fun s5 =>
  some (decide ((s5.length : Int) = (0 : Int)))
def m_l_is_zone_b1  (s5 : (List Int)) (x16 : Int) : Option (List Int) :=
  (m_l_int_0 x16).bind fun q25 =>
  if (!q25) = true then ((app s5 x16).bind fun x28 =>
  some x28) else (some s5)
def m_l_is_zone (d0 : (List Int)) (d1 : (List Int)) : Option Bool :=
  ( if true = true then (forN (m_l_is_zone_b1) ([] : (List Int)) d0).bind fun s5 => if (decide ((s5.length : Int) = (0 : Int))) = true then some (decide (d0 = d1)) else some false else some false : Option Bool).bind fun b3 =>
  some b3
def m_l_are_zones_b1 (d0 : (List (List Int))) (d1 : (List (List Int))) (s6 : (List Int)) (x17 : Int) : Option (List Int) :=
  (at_ d0 x17).bind fun x26 =>
  (at_ d1 x17).bind fun x35 =>
  (m_l_is_zone x26 x35).bind fun q44 =>
  if (!q44) = true then ((app s6 x17).bind fun x47 =>
  some x47) else (some s6)
def m_l_are_zones (d0 : (List (List Int))) (d1 : (List (List Int))) : Option Bool :=
  if ((!true) || (!(decide ((d0.length : Int) = (d1.length : Int))))) = true then
  (some false)
  else
  (rngO 0 (d1.length : Int)).bind fun g4 =>
  (forN (m_l_are_zones_b1 d0 d1) ([] : (List Int)) g4).bind fun s6 =>
  some (decide ((s6.length : Int) = (0 : Int)))
def m_l_all_fresh_b1 (d1 : (List (List Int))) (s5 : (List (List Int))) (x9 : Int) : Option ((Bool × (List (List Int))) ⊕ (List (List Int))) :=
  (at_ s5 x9).bind fun x12 =>
  (at_ d1 x9).bind fun x21 =>
  if (!(decide ((x12.length : Int) = (x21.length : Int)))) = true then
  (some (.inl (false, s5)))
  else
  (at_ s5 x9).bind fun x30 =>
  (appIn s5 x9 (99 : Int)).bind fun x36 =>
  some (.inr x36)
def m_l_all_fresh (d0 : (List (List Int))) (d1 : (List (List Int))) : Option (Bool × (List (List Int))) :=
  (rngO 0 (d1.length : Int)).bind fun g3 =>
  (forR (m_l_all_fresh_b1 d1) d0 g3).bind fun e4 => orR e4 fun s5 =>
  some (true, s5)
def m_l_corridors_hold_0_b1 (d0 : ((List Int) × (List (Int × Int)) × (List Int) × (List Int))) (d1 : (Int × (List Int) × (List (Int × Int)) × (List Int) × (List Int) × (List (List Int)))) (d2 : Int) (d3 : (List (Int × Int × (List Int) × Int × Bool))) (d4 : (List (Int × Int × (List Int) × Int × Bool))) (s8 : Unit) (x13 : Int) : Option (Bool ⊕ Unit) :=
  (m_l_corridor d0 d4 x13 (d2 + (1 : Int))).bind fun q16 =>
  (m_corridor_of_0 d1 d2 d3 x13).bind fun q27 =>
  ((m_l_are_zones q27 q16).bind fun q40 => if (!q40) = true then some (true, q27) else (m_l_all_fresh q27 q16).bind fun q43 => some ((!q43.1), q43.2) : Option (Bool × (List (List Int)))).bind fun b39 =>
  if b39.1 = true then
  (some (.inl false))
  else
  (app b39.2 [(99 : Int)]).bind fun x57 =>
  (m_corridor_of_0 d1 d2 d3 x13).bind fun q70 =>
  (m_l_are_zones q70 q16).bind fun q83 =>
  if (!q83) = true then
  (some (.inl false))
  else
  some (.inr ())
def m_l_corridors_hold_0 (d0 : ((List Int) × (List (Int × Int)) × (List Int) × (List Int))) (d1 : (Int × (List Int) × (List (Int × Int)) × (List Int) × (List Int) × (List (List Int)))) (d2 : Int) (d3 : (List (Int × Int × (List Int) × Int × Bool))) (d4 : (List (Int × Int × (List Int) × Int × Bool))) : Option Bool :=
  (rngO 0 (4 : Int)).bind fun g6 =>
  (forR (m_l_corridors_hold_0_b1 d0 d1 d2 d3 d4) () g6).bind fun e7 => orR e7 fun s8 =>
  some true
def m_l_corridors_hold_1_b1 (d0 : ((List Int) × (List (Int × Int)) × (List Int) × (List Int))) (d1 : (Int × (List Int) × (List (Int × Int)) × (List Int) × (List Int) × (List (List Int)))) (d2 : Int) (d3 : (List (Int × Int × (List Int) × Int × Bool))) (d4 : (List (Int × Int × (List Int) × Int × Bool))) (s8 : Unit) (x13 : Int) : Option (Bool ⊕ Unit) :=
  (m_l_corridor d0 d4 x13 (d2 + (1 : Int))).bind fun q16 =>
  (m_corridor_of_1 d1 d2 d3 x13).bind fun q26 =>
  ((m_l_are_zones q26 q16).bind fun q38 => if (!q38) = true then some (true, q26) else (m_l_all_fresh q26 q16).bind fun q41 => some ((!q41.1), q41.2) : Option (Bool × (List (List Int)))).bind fun b37 =>
  if b37.1 = true then
  (some (.inl false))
  else
  (app b37.2 [(99 : Int)]).bind fun x54 =>
  (m_corridor_of_1 d1 d2 d3 x13).bind fun q66 =>
  (m_l_are_zones q66 q16).bind fun q78 =>
  if (!q78) = true then
  (some (.inl false))
  else
  some (.inr ())
def m_l_corridors_hold_1 (d0 : ((List Int) × (List (Int × Int)) × (List Int) × (List Int))) (d1 : (Int × (List Int) × (List (Int × Int)) × (List Int) × (List Int) × (List (List Int)))) (d2 : Int) (d3 : (List (Int × Int × (List Int) × Int × Bool))) (d4 : (List (Int × Int × (List Int) × Int × Bool))) : Option Bool :=
  (rngO 0 (4 : Int)).bind fun g6 =>
  (forR (m_l_corridors_hold_1_b1 d0 d1 d2 d3 d4) () g6).bind fun e7 => orR e7 fun s8 =>
  some true
def m_law_b1  (s169 : ((List (Int × Int × (List Int) × Int × Bool)) × (List Int))) (x182 : (Int × Int × (List Int) × Int × Bool)) : Option ((List (Int × Int × (List Int) × Int × Bool)) × (List Int)) :=
  (m_l_pick s169.2 (48 : Int)).bind fun q196 =>
  (m_l_report q196.1 x182).bind fun q199 =>
  (app s169.1 q199).bind fun x204 =>
  some (x204, q196.2)
def m_law (d0 : (List Int)) : Option Bool :=
  (m_l_hand d0 (0 : Int)).bind fun q2 =>
  (m_l_pick q2 (8 : Int)).bind fun q17 =>
  (at_ [(6 : Int), (6 : Int), (6 : Int), (6 : Int), (6 : Int), (6 : Int), (6 : Int), (12 : Int)] q17.1).bind fun x20 =>
  (m_l_sea q17.2 x20).bind fun q23 =>
  (m_l_hand d0 (1 : Int)).bind fun q81 =>
  (m_l_pick q81 (8 : Int)).bind fun q101 =>
  (at_ [(9 : Int), (9 : Int), (9 : Int), (25 : Int), (9 : Int), (9 : Int), (9 : Int), (9 : Int)] q101.1).bind fun x104 =>
  (m_l_pick q101.2 x104).bind fun q107 =>
  (m_l_pick q107.2 (9 : Int)).bind fun q110 =>
  (m_l_hand d0 (2 : Int)).bind fun q113 =>
  (m_l_pick q113 (8 : Int)).bind fun q133 =>
  (at_ [(13 : Int), (13 : Int), (13 : Int), (13 : Int), (13 : Int), (41 : Int), (13 : Int), (13 : Int)] q133.1).bind fun x136 =>
  (m_l_pick q133.2 x136).bind fun q139 =>
  (m_l_pick q139.2 (4 : Int)).bind fun q142 =>
  (m_l_wild q142.2 q139.1 q107.1 q142.1).bind fun q145 =>
  (m_l_hand d0 (3 : Int)).bind fun q156 =>
  (forN (m_law_b1) (([] : (List (Int × Int × (List Int) × Int × Bool))), q156) q145.1).bind fun s169 =>
  (m_l_chart q23.1).bind fun q207 =>
  ((m_l_all_keep s169.1 q145.1).bind fun q213 => if (!q213) = true then some true else (m_l_corridors_hold_0 q23.1 q207 q107.1 s169.1 q145.1).bind fun q216 => some (!q216) : Option Bool).bind fun b212 =>
  if b212 = true then
  (some false)
  else
  (m_l_chart ([(0 : Int), (3 : Int), (0 : Int), (1 : Int), (0 : Int), (2 : Int), (0 : Int), (5 : Int), (0 : Int), (1 : Int), (0 : Int), (9 : Int)], [((2 : Int), (7 : Int))], q23.1.2.2.1, ([] : (List Int)))).bind fun q219 =>
  (m_l_corridors_hold_1 ([(0 : Int), (3 : Int), (0 : Int), (1 : Int), (0 : Int), (2 : Int), (0 : Int), (5 : Int), (0 : Int), (1 : Int), (0 : Int), (9 : Int)], [((2 : Int), (7 : Int))], q23.1.2.2.1, ([] : (List Int))) q219 q110.1 s169.1 q145.1).bind fun q228 =>
  if (!q228) = true then
  (some false)
  else
  (if (decide ((0 : Int) < (q145.1.length : Int))) = true then ((m_l_pick s169.2 (q145.1.length : Int)).bind fun q240 =>
  (guardO (decide (q145.1.length ≤ big))).bind fun z243 =>
  (popAt q145.1 q240.1).bind fun x244 =>
  (guardO (decide (s169.1.length ≤ big))).bind fun z251 =>
  (popAt s169.1 q240.1).bind fun x252 =>
  some (x244.2, x252.2)) else (some (q145.1, s169.1)) : Option ((List (Int × Int × (List Int) × Int × Bool)) × (List (Int × Int × (List Int) × Int × Bool)))).bind fun s231 =>
  ((m_l_corridors_hold_0 q23.1 q207 q107.1 s231.2 s231.1).bind fun q258 => if q258 = true then (m_l_all_keep s231.2 s231.1).bind fun q261 => some q261 else some false : Option Bool).bind fun b257 =>
  some b257
end Mi

namespace Mi
/-! ### draws -/
def Hd (h : List Int) : Prop := ∃ a b c : Int, h = [a, b, c] ∧ 0 ≤ a
theorem mod_ok {i j : Int} (h : 0 < j) : mod i j = some (i % j) := if_pos h
theorem fdiv_ok {i j : Int} (h : 0 < j) (h2 : j < 2 ^ 200) : fdiv i j = some (i / j) := if_pos ⟨h, h2⟩
theorem mul_okL {i j : Int} (h : -(2 ^ 64) < i) (h2 : i < 2 ^ 64) : mul i j = some (i * j) := if_pos (.inl ⟨h, h2⟩)
theorem mul_okR {i j : Int} (h : -(2 ^ 64) < j) (h2 : j < 2 ^ 64) : mul i j = some (i * j) := if_pos (.inr ⟨h, h2⟩)
theorem app_ok {α : Type} {xs : List α} {x : α} (h : xs.length < big) : app xs x = some (xs ++ [x]) := if_pos h
theorem cat_ok {α : Type} {xs ys : List α} (h : xs.length + ys.length ≤ big) : cat xs ys = some (xs ++ ys) := if_pos h
theorem rngO_ok {lo hi : Int} (h1 : -(2 ^ 60) ≤ lo) (h2 : lo < 2 ^ 60) (h3 : -(2 ^ 60) ≤ hi) (h4 : hi < 2 ^ 60) : rngO lo hi = some (rng lo hi) := if_pos ⟨⟨h1, h2⟩, h3, h4⟩
theorem rngDownO_ok {lo hi : Int} (h1 : -(2 ^ 60) ≤ lo) (h2 : lo < 2 ^ 60) (h3 : -(2 ^ 60) ≤ hi) (h4 : hi < 2 ^ 60) : rngDownO lo hi = some (rngDown lo hi) := if_pos ⟨⟨h1, h2⟩, h3, h4⟩
theorem at0 {α : Type} (a : α) (l : List α) : at_ (a :: l) 0 = some a := by
  unfold at_ ixN
  rw [if_pos (by decide), if_pos (by rw [List.length_cons]; omega)]
  rfl
theorem at_nat {α : Type} {xs : List α} {j : Nat} {x : α} (h : xs[j]? = some x) : at_ xs (j : Int) = some x := by
  have hj : j < xs.length := (List.getElem?_eq_some_iff.mp h).1
  unfold at_ ixN
  rw [if_pos (by omega), if_pos (by omega), Int.toNat_natCast]
  exact h
theorem at_int {α : Type} {xs : List α} {i : Int} {x : α} (h0 : 0 ≤ i) (h : xs[i.toNat]? = some x) : at_ xs i = some x := by
  have e : i = (i.toNat : Int) := by omega
  rw [e]; exact at_nat h
theorem at_some {α : Type} {xs : List α} {i : Int} (h0 : 0 ≤ i) (h1 : i < xs.length) : ∃ x, at_ xs i = some x ∧ xs[i.toNat]? = some x := by
  have hj : i.toNat < xs.length := by omega
  exact ⟨xs[i.toNat], at_int h0 (List.getElem?_eq_getElem hj), List.getElem?_eq_getElem hj⟩
theorem hand_ok (s : List Int) (k : Int) (hk : 0 ≤ k) : ∃ h, m_l_hand s k = some h ∧ Hd h := by
  simp only [m_l_hand, pyLet]
  have hc : ∃ c, (if decide (k < (s.length : Int)) = true then (at_ s k).bind fun x3 => some x3 else some 0 : Option Int) = some c := by
    by_cases h : k < (s.length : Int)
    · rw [if_pos (decide_eq_true h)]
      obtain ⟨x, hx, _⟩ := at_some hk h
      rw [hx]
      exact ⟨x, rfl⟩
    · rw [if_neg (by simpa using h)]
      exact ⟨0, rfl⟩
  obtain ⟨c, hc⟩ := hc
  rw [hc]
  show ∃ h, (Option.bind (if decide (c < 0) = true then some (1 - 2 * c) else some c) _) = some h ∧ Hd h
  have hd : ∃ d, (if decide (c < 0) = true then some (1 - 2 * c) else some c) = some d ∧ 0 ≤ d := by
    by_cases h : c < 0
    · rw [if_pos (decide_eq_true h)]
      exact ⟨_, rfl, by omega⟩
    · rw [if_neg (by simpa using h)]
      exact ⟨c, rfl, by omega⟩
  obtain ⟨d, hd, h0⟩ := hd
  rw [hd]
  show ∃ h, (Option.bind (if decide (((10 : Int) ^ 18) ≤ d) = true then some d else some 0) _) = some h ∧ Hd h
  by_cases h : ((10 : Int) ^ 18) ≤ d
  · rw [if_pos (decide_eq_true h)]
    exact ⟨_, rfl, _, _, _, rfl, h0⟩
  · rw [if_neg (by simpa using h)]
    exact ⟨_, rfl, _, _, _, rfl, by omega⟩
theorem pick_ok {h : List Int} (hh : Hd h) {n : Int} (hn : 1 ≤ n) (hN : n < 2 ^ 200) : ∃ r h', m_l_pick h n = some (r, h') ∧ 0 ≤ r ∧ r < n ∧ Hd h' := by
  obtain ⟨a, b, c, rfl, ha⟩ := hh
  have i0 : ∀ x y z : Int, at_ [x, y, z] 0 = some x := fun _ _ _ => rfl
  have i1 : ∀ x y z : Int, at_ [x, y, z] 1 = some y := fun _ _ _ => rfl
  have i2 : ∀ x y z : Int, at_ [x, y, z] 2 = some z := fun _ _ _ => rfl
  have s0 : ∀ x y z u : Int, setAt [x, y, z] 0 u = some [u, y, z] := fun _ _ _ _ => rfl
  have s2 : ∀ x y z u : Int, setAt [x, y, z] 2 u = some [x, y, u] := fun _ _ _ _ => rfl
  unfold m_l_pick pyLet
  rw [if_neg (by simp; omega)]
  simp only [i0, i1, i2, s0, s2, Option.bind_some]
  by_cases h : 0 < a
  · rw [if_pos (decide_eq_true h), mod_ok (by omega)]
    simp only [Option.bind_some]
    rw [fdiv_ok (by omega) hN]
    simp only [Option.bind_some, s0]
    exact ⟨_, _, rfl, Int.emod_nonneg _ (by omega), Int.emod_lt_of_pos _ (by omega), _, _, _, rfl, Int.ediv_nonneg ha (by omega)⟩
  · rw [if_neg (by simpa using h)]
    have m1 := Int.emod_nonneg (b + 7919 * (c + 1) + 13) (show (2147483647 : Int) ≠ 0 by decide)
    have m2 := Int.emod_lt_of_pos (b + 7919 * (c + 1) + 13) (show (0 : Int) < 2147483647 by decide)
    rw [mul_okL (by omega) (by omega)]
    simp only [Option.bind_some]
    have m3 := Int.emod_nonneg ((b + 7919 * (c + 1) + 13) % 2147483647 * ((b + 7919 * (c + 1) + 13) % 2147483647 + 48271)) (show (2147483629 : Int) ≠ 0 by decide)
    have m4 := Int.emod_lt_of_pos ((b + 7919 * (c + 1) + 13) % 2147483647 * ((b + 7919 * (c + 1) + 13) % 2147483647 + 48271)) (show (0 : Int) < 2147483629 by decide)
    rw [mul_okL (by omega) (by omega)]
    simp only [Option.bind_some]
    rw [mod_ok (by omega)]
    exact ⟨_, _, rfl, Int.emod_nonneg _ (by omega), Int.emod_lt_of_pos _ (by omega), _, _, _, rfl, ha⟩

/-! ### ranges and loops -/
theorem rng_nil {lo hi : Int} (h : hi ≤ lo) : rng lo hi = [] := by
  unfold rng
  have e : (hi - lo).toNat = 0 := by omega
  rw [e]; rfl
theorem rng_cons {lo hi : Int} (h : lo < hi) : rng lo hi = lo :: rng (lo + 1) hi := by
  unfold rng
  have e : (hi - lo).toNat = (hi - (lo + 1)).toNat + 1 := by omega
  rw [e, List.range_succ_eq_map, List.map_cons, List.map_map]
  congr 1
  · omega
  · apply List.map_congr_left
    intro k _
    show lo + ((k + 1 : Nat) : Int) = lo + 1 + (k : Int)
    omega
theorem rngDown_nil {lo hi : Int} (h : lo ≤ hi) : rngDown lo hi = [] := by
  unfold rngDown
  have e : (lo - hi).toNat = 0 := by omega
  rw [e]; rfl
theorem rngDown_cons {lo hi : Int} (h : hi < lo) : rngDown lo hi = lo :: rngDown (lo - 1) hi := by
  unfold rngDown
  have e : (lo - hi).toNat = (lo - 1 - hi).toNat + 1 := by omega
  rw [e, List.range_succ_eq_map, List.map_cons, List.map_map]
  congr 1
  · omega
  · apply List.map_congr_left
    intro k _
    show lo - ((k + 1 : Nat) : Int) = lo - 1 - (k : Int)
    omega
theorem rng_length (lo hi : Int) : (rng lo hi).length = (hi - lo).toNat := by unfold rng; rw [List.length_map, List.length_range]
theorem mem_rng {lo hi x : Int} : x ∈ rng lo hi ↔ lo ≤ x ∧ x < hi := by
  unfold rng
  rw [List.mem_map]
  constructor
  · rintro ⟨k, hk, rfl⟩
    rw [List.mem_range] at hk
    omega
  · intro h
    exact ⟨(x - lo).toNat, List.mem_range.mpr (by omega), by omega⟩
theorem at_app {α : Type} (pre : List α) (x : α) (post : List α) : at_ (pre ++ x :: post) (pre.length : Int) = some x := at_nat (by
  rw [List.getElem?_append_right (Nat.le_refl _), Nat.sub_self]; rfl)
/-- a loop that keeps P runs through -/
theorem forN_inv {α σ : Type} {f : σ → α → Option σ} (P : σ → Prop) : ∀ {xs : List α} {s : σ}, P s → (∀ s x, x ∈ xs → P s → ∃ s', f s x = some s' ∧ P s') → ∃ e, forN f s xs = some e ∧ P e
  | [], s, h0, _ => ⟨s, rfl, h0⟩
  | x :: xs, s, h0, h => by
    obtain ⟨s', e, h1⟩ := h s x (List.mem_cons_self ..) h0
    obtain ⟨e2, h2, h3⟩ := forN_inv P (xs := xs) h1 fun s y hy => h s y (List.mem_cons_of_mem _ hy)
    exact ⟨e2, by show (f s x).bind _ = _; rw [e]; exact h2, h3⟩
theorem forN_nil {α σ : Type} (f : σ → α → Option σ) (s : σ) : forN f s [] = some s := rfl
theorem forN_cons {α σ : Type} (f : σ → α → Option σ) (s : σ) (x : α) (xs : List α) : forN f s (x :: xs) = (f s x).bind fun s' => forN f s' xs := rfl
theorem forR_nil {α σ ρ : Type} (f : σ → α → Option (ρ ⊕ σ)) (s : σ) : forR f s [] = some (.inr s) := rfl
theorem forR_step {α σ ρ : Type} {f : σ → α → Option (ρ ⊕ σ)} {s s' : σ} {x : α} {xs : List α} (h : f s x = some (.inr s')) : forR f s (x :: xs) = forR f s' xs := by
  show (f s x).bind _ = _
  rw [h]; rfl
/-- a search that finds nothing to return -/
theorem forR_all {α ρ : Type} {f : Unit → α → Option (ρ ⊕ Unit)} : ∀ {xs : List α}, (∀ x ∈ xs, f () x = some (.inr ())) → forR f () xs = some (.inr ())
  | [], _ => rfl
  | x :: xs, h => by
    rw [forR_step (h x (List.mem_cons_self ..))]
    exact forR_all fun y hy => h y (List.mem_cons_of_mem _ hy)
/-- a loop that appends what h gives -/
theorem forN_flat {α β : Type} {f : List β → α → Option (List β)} (h : α → List β) (h1 : ∀ x, (h x).length ≤ 1) : ∀ {xs : List α} {acc : List β}, acc.length + xs.length ≤ big → (∀ acc x, x ∈ xs → acc.length < big → f acc x = some (acc ++ h x)) → forN f acc xs = some (acc ++ xs.flatMap h)
  | [], acc, _, _ => by rw [List.flatMap_nil, List.append_nil]; rfl
  | x :: xs, acc, hb, hf => by
    rw [List.length_cons] at hb
    rw [forN_cons, hf acc x (List.mem_cons_self ..) (by omega), Option.bind_some, forN_flat h h1 (by rw [List.length_append]; have := h1 x; omega) fun a y hy => hf a y (List.mem_cons_of_mem _ hy), List.flatMap_cons, List.append_assoc]
/-- a walk by index is a walk over the pairs -/
theorem forN_index {α σ : Type} {f : σ → Int → Option σ} {g : σ → Int × α → Option σ} : ∀ (suf pre : List α) (s : σ), (∀ s (k : Nat) x, (pre ++ suf)[k]? = some x → f s (k : Int) = g s ((k : Int), x)) → forN f s (rng (pre.length : Int) ((pre ++ suf).length : Int)) = forN g s (enumF (pre.length : Int) suf)
  | [], pre, s, _ => by rw [rng_nil (by rw [List.append_nil]; omega)]; rfl
  | x :: suf, pre, s, h => by
    rw [rng_cons (by rw [List.length_append, List.length_cons]; omega)]
    show (f s (pre.length : Int)).bind _ = (g s ((pre.length : Int), x)).bind _
    rw [h s pre.length x (by rw [List.getElem?_append_right (Nat.le_refl _), Nat.sub_self]; rfl)]
    congr 1
    funext s'
    have e : pre ++ x :: suf = (pre ++ [x]) ++ suf := by rw [List.append_assoc]; rfl
    have e2 : ((pre ++ [x]).length : Int) = (pre.length : Int) + 1 := by rw [List.length_append]; rfl
    have z := forN_index suf (pre ++ [x]) s' (f := f) (g := g) (fun s k y hy => h s k y (by rw [e]; exact hy))
    rw [e2] at z
    rw [e]; exact z
theorem forN_index0 {α σ : Type} {f : σ → Int → Option σ} {g : σ → Int × α → Option σ} (xs : List α) (s : σ) (h : ∀ s (k : Nat) x, xs[k]? = some x → f s (k : Int) = g s ((k : Int), x)) : forN f s (rng 0 (xs.length : Int)) = forN g s (enumF 0 xs) := forN_index xs [] s h
theorem enumF_length {α : Type} : ∀ (k : Int) (xs : List α), (enumF k xs).length = xs.length
  | _, [] => rfl
  | k, _ :: ys => by show (enumF (k + 1) ys).length + 1 = ys.length + 1; rw [enumF_length]
theorem enumF_mem {α : Type} : ∀ (k : Int) (xs : List α) {p : Int × α}, p ∈ enumF k xs → p.2 ∈ xs
  | _, [], _, h => by cases h
  | k, y :: ys, p, h => by
    rcases List.mem_cons.mp h with rfl | h
    · exact List.mem_cons_self ..
    · exact List.mem_cons_of_mem _ (enumF_mem (k + 1) ys h)
theorem sortI_self {xs : List Int} (h : xs.Pairwise (· ≤ ·)) : sortI xs = xs := List.mergeSort_of_pairwise (List.Pairwise.imp (fun z => decide_eq_true z) h)
theorem at_mem {α : Type} {xs : List α} {i : Int} (h0 : 0 ≤ i) (h1 : i < xs.length) : ∃ x, at_ xs i = some x ∧ x ∈ xs := by
  obtain ⟨x, e, g⟩ := at_some h0 h1
  exact ⟨x, e, List.mem_of_getElem? g⟩
theorem popAt_ok {α : Type} {xs : List α} {i : Int} (h0 : 0 ≤ i) (h1 : i < xs.length) : ∃ x, popAt xs i = some (x, xs.eraseIdx i.toNat) := by
  have hj : i.toNat < xs.length := by omega
  refine ⟨xs[i.toNat], ?_⟩
  unfold popAt ixN
  rw [if_pos h0, if_pos h1, Option.bind_some, List.getElem?_eq_getElem hj]
  rfl
theorem guard_ok {c : Bool} (h : c = true) : guardO c = some () := if_pos h
theorem pairwise_flat {α : Type} {r : α → α → Prop} {h : α → List α} (hs : ∀ x, h x = [] ∨ h x = [x]) : ∀ {xs : List α}, xs.Pairwise r → (xs.flatMap h).Pairwise r ∧ ∀ y ∈ xs.flatMap h, y ∈ xs
  | [], _ => ⟨by rw [List.flatMap_nil]; exact .nil, fun y hy => by rw [List.flatMap_nil] at hy; exact hy⟩
  | x :: xs, p => by
    have pc := List.pairwise_cons.mp p
    obtain ⟨i1, i2⟩ := pairwise_flat hs pc.2
    rw [List.flatMap_cons]
    rcases hs x with e | e
    · rw [e, List.nil_append]
      exact ⟨i1, fun y hy => List.mem_cons_of_mem _ (i2 y hy)⟩
    · rw [e]
      refine ⟨List.pairwise_cons.mpr ⟨fun y hy => pc.1 y (i2 y hy), i1⟩, fun y hy => ?_⟩
      rcases List.mem_cons.mp hy with rfl | hy
      · exact List.mem_cons_self ..
      · exact List.mem_cons_of_mem _ (i2 y hy)
theorem rng_lt (lo hi : Int) : (rng lo hi).Pairwise (· < ·) := by
  unfold rng
  rw [List.pairwise_map]
  exact List.Pairwise.imp (fun h => by omega) List.pairwise_lt_range
theorem bd {α β : Type} {m : Option α} {f : α → Option β} {x : α} {r : Option β} (h : m = some x) (k : f x = r) : m.bind f = r := by rw [h]; exact k
theorem le_big {n : Nat} (h : n ≤ 100000) : n ≤ big := Nat.le_trans h (by decide)
theorem lt_big {n : Nat} (h : n ≤ 100000) : n < big := Nat.lt_of_le_of_lt h (by decide)
theorem flat_one {α : Type} : ∀ xs : List α, xs.flatMap (fun x => [x]) = xs
  | [] => rfl
  | x :: xs => by rw [List.flatMap_cons, flat_one xs]; rfl
theorem flat_le {α β : Type} {h : α → List β} (h1 : ∀ x, (h x).length ≤ 1) : ∀ xs : List α, (xs.flatMap h).length ≤ xs.length
  | [] => Nat.le_refl _
  | x :: xs => by rw [List.flatMap_cons, List.length_append, List.length_cons]; have := h1 x; have := flat_le h1 xs; omega
theorem ift {α : Type} {b : Bool} {x y r : Option α} (h : b = true) (k : x = r) : (if b = true then x else y) = r := by rw [if_pos h]; exact k
theorem iff' {α : Type} {b : Bool} {x y r : Option α} (h : b = false) (k : y = r) : (if b = true then x else y) = r := by rw [h, if_neg Bool.false_ne_true]; exact k
theorem forN_flatC {α β : Type} {f : List β → α → Option (List β)} (h : α → List β) (c : Nat) : ∀ {xs : List α} {acc : List β}, acc.length + c * xs.length ≤ 100000 → (∀ x ∈ xs, (h x).length ≤ c) → (∀ acc x, x ∈ xs → acc.length + c ≤ 100000 → f acc x = some (acc ++ h x)) → forN f acc xs = some (acc ++ xs.flatMap h)
  | [], acc, _, _, _ => by rw [List.flatMap_nil, List.append_nil]; rfl
  | x :: xs, acc, hb, h1, hf => by
    rw [List.length_cons, Nat.mul_add, Nat.mul_one] at hb
    rw [forN_cons, hf acc x (List.mem_cons_self ..) (by omega), Option.bind_some, forN_flatC h c (by rw [List.length_append]; have := h1 x (List.mem_cons_self ..); omega) (fun y hy => h1 y (List.mem_cons_of_mem _ hy)) fun a y hy => hf a y (List.mem_cons_of_mem _ hy), List.flatMap_cons, List.append_assoc]
theorem enumF_map {α β : Type} (g : α → β) : ∀ (k : Int) (xs : List α), enumF k (xs.map g) = (enumF k xs).map fun p => (p.1, g p.2)
  | _, [] => rfl
  | k, x :: xs => by show (k, g x) :: enumF (k + 1) (xs.map g) = (k, g x) :: _; rw [enumF_map g (k + 1) xs]
theorem flat_map {α β γ : Type} (g : α → β) (h : β → List γ) : ∀ xs : List α, (xs.map g).flatMap h = xs.flatMap fun x => h (g x)
  | [] => rfl
  | x :: xs => by rw [List.map_cons, List.flatMap_cons, List.flatMap_cons, flat_map g h xs]
theorem flat_sing {α β : Type} (g : α → β) : ∀ xs : List α, (xs.flatMap fun x => [g x]) = xs.map g
  | [] => rfl
  | x :: xs => by rw [List.flatMap_cons, flat_sing g xs]; rfl
theorem joinE_sing {α : Type} (g : α → Nat) : ∀ xs : List α, joinL [] (xs.map fun x => [g x]) = xs.map g
  | [] => rfl
  | [_] => rfl
  | x :: y :: r => by
    show [g x] ++ ([] ++ joinL [] ((y :: r).map fun x => [g x])) = _
    rw [joinE_sing g (y :: r)]; rfl
theorem sum_sing {α : Type} (g : α → Nat) : ∀ xs : List α, ((xs.map fun x => [g x]).map (·.length)).sum = xs.length
  | [] => rfl
  | x :: xs => by
    rw [List.map_cons, List.map_cons, List.sum_cons, sum_sing g xs]
    show 1 + xs.length = xs.length + 1
    omega
theorem sJoin_sing {α : Type} (g : α → Nat) {xs : List α} (h : xs.length ≤ 100000) : sJoin [] (xs.map fun x => [g x]) = some (xs.map g) := by
  unfold sJoin
  rw [sum_sing, joinE_sing, if_pos (by show xs.length + _ * 0 ≤ big; rw [Nat.mul_zero]; exact le_big h)]
theorem sLen_ok {s : List Nat} (h : s.length ≤ 100000) : sLen s = some (s.length : Int) := if_pos (le_big h)
theorem sAt_ok {s : List Nat} {i : Int} (h : s.length ≤ 100000) (h0 : 0 ≤ i) (h1 : i < s.length) : sAt s i = some [s[i.toNat]?.getD 0] ∧ s[i.toNat]?.getD 0 ∈ s := by
  obtain ⟨x, e, g⟩ := at_some h0 h1
  unfold sAt
  rw [if_pos (le_big h), e, g]
  exact ⟨rfl, List.mem_of_getElem? g⟩
theorem sCut_ok {s : List Nat} {lo hi : Option Int} (h : s.length ≤ 100000) : sCut s lo hi = some (cut s lo hi) := if_pos (le_big h)
theorem sCat_ok {s t : List Nat} (h : s.length + t.length ≤ 100000) : sCat s t = some (s ++ t) := if_pos (le_big h)
theorem cut_mem {α : Type} {xs : List α} {lo hi : Option Int} {x : α} (h : x ∈ cut xs lo hi) : x ∈ xs := List.mem_of_mem_drop (List.mem_of_mem_take h)
theorem cut_to {α : Type} {xs : List α} {i : Int} (h0 : 0 ≤ i) (h1 : i ≤ xs.length) : (cut xs none (some i)).length = i.toNat := by
  show ((xs.drop 0).take ((if i < 0 then (i + (xs.length : Int)).toNat else min i.toNat xs.length) - 0)).length = _
  rw [if_neg (by omega), List.length_take, List.length_drop]
  omega
theorem cut_from {α : Type} {xs : List α} {i : Int} (h0 : 0 ≤ i) (h1 : i ≤ xs.length) : (cut xs (some i) none).length = xs.length - i.toNat := by
  show ((xs.drop (if i < 0 then (i + (xs.length : Int)).toNat else min i.toNat xs.length)).take (xs.length - (if i < 0 then (i + (xs.length : Int)).toNat else min i.toNat xs.length))).length = _
  rw [if_neg (by omega), List.length_take, List.length_drop]
  omega
theorem map_erase {α β : Type} (f : α → β) : ∀ (xs : List α) (k : Nat), (xs.map f).eraseIdx k = (xs.eraseIdx k).map f
  | [], _ => rfl
  | x :: xs, 0 => rfl
  | x :: xs, k + 1 => by
    show f x :: (xs.map f).eraseIdx k = f x :: (xs.eraseIdx k).map f
    rw [map_erase f xs k]

/-! ### loops by what has been gone through -/
theorem forN_ind {α σ : Type} {f : σ → α → Option σ} (P : List α → σ → Prop) {xs : List α} {s0 : σ} (h0 : P [] s0) (h : ∀ pre x suf s, xs = pre ++ x :: suf → P pre s → ∃ s', f s x = some s' ∧ P (pre ++ [x]) s') : ∃ e, forN f s0 xs = some e ∧ P xs e := by
  have key : ∀ (suf pre : List α) (s : σ), xs = pre ++ suf → P pre s → ∃ e, forN f s suf = some e ∧ P xs e := by
    intro suf
    induction suf with
    | nil => intro pre s e p; rw [List.append_nil] at e; subst e; exact ⟨s, rfl, p⟩
    | cons x suf ih =>
      intro pre s e p
      obtain ⟨s', e1, p1⟩ := h pre x suf s e p
      obtain ⟨r, e2, p2⟩ := ih (pre ++ [x]) s' (by rw [e, List.append_assoc]; rfl) p1
      exact ⟨r, by rw [forN_cons, e1]; exact e2, p2⟩
  exact key xs [] s0 rfl h0
theorem forN_thru {α σ : Type} {f : σ → α → Option σ} (st : List α → σ) {xs : List α} {s0 : σ} (h0 : s0 = st []) (h : ∀ pre x suf, xs = pre ++ x :: suf → f (st pre) x = some (st (pre ++ [x]))) : forN f s0 xs = some (st xs) := by
  obtain ⟨e, h1, h2⟩ := forN_ind (f := f) (fun pre s => s = st pre) h0 (fun pre x suf s e p => ⟨_, by rw [p]; exact h pre x suf e, rfl⟩)
  rw [h1, h2]
theorem forR_thru {α σ ρ : Type} {f : σ → α → Option (ρ ⊕ σ)} (st : List α → σ) {xs : List α} {s0 : σ} (h0 : s0 = st []) (h : ∀ pre x suf, xs = pre ++ x :: suf → f (st pre) x = some (.inr (st (pre ++ [x])))) : forR f s0 xs = some (.inr (st xs)) := by
  subst h0
  have key : ∀ (suf pre : List α), xs = pre ++ suf → forR f (st pre) suf = some (.inr (st xs)) := by
    intro suf
    induction suf with
    | nil => intro pre e; rw [List.append_nil] at e; subst e; rfl
    | cons x suf ih =>
      intro pre e
      rw [forR_step (h pre x suf e)]
      exact ih (pre ++ [x]) (by rw [e, List.append_assoc]; rfl)
  exact key xs [] rfl
theorem mem_mid {α : Type} {xs pre suf : List α} {x : α} (e : xs = pre ++ x :: suf) : x ∈ xs := by rw [e]; exact List.mem_append_right _ (List.mem_cons_self ..)
theorem mem_pre {α : Type} {xs pre suf : List α} {x y : α} (e : xs = pre ++ x :: suf) (h : y ∈ pre) : y ∈ xs := by rw [e]; exact List.mem_append_left _ h
theorem rng_app (lo mid hi : Int) (h1 : lo ≤ mid) (h2 : mid ≤ hi) : rng lo hi = rng lo mid ++ rng mid hi := by
  have key : ∀ (n : Nat) (lo : Int), (mid - lo).toNat = n → lo ≤ mid → rng lo hi = rng lo mid ++ rng mid hi := by
    intro n
    induction n with
    | zero => intro lo e h; have : lo = mid := by omega
              subst this; rw [rng_nil (Int.le_refl _)]; rfl
    | succ n ih =>
      intro lo e h
      rw [rng_cons (lo := lo) (hi := hi) (by omega), rng_cons (lo := lo) (hi := mid) (by omega), ih (lo + 1) (by omega) (by omega)]; rfl
  exact key _ lo rfl h1
theorem rng_mid {lo hi : Int} {pre suf : List Int} {x : Int} (e : rng lo hi = pre ++ x :: suf) : x = lo + pre.length ∧ pre = rng lo x ∧ suf = rng (x + 1) hi ∧ x < hi := by
  induction pre generalizing lo with
  | nil =>
    by_cases h : lo < hi
    · rw [rng_cons h] at e
      obtain ⟨rfl, e2⟩ := List.cons.inj e
      exact ⟨by simp, by rw [rng_nil (Int.le_refl _)], e2.symm, h⟩
    · rw [rng_nil (by omega)] at e; cases e
  | cons y pre ih =>
    by_cases h : lo < hi
    · rw [rng_cons h] at e
      obtain ⟨rfl, e2⟩ := List.cons.inj e
      obtain ⟨h1, h2, h3, h4⟩ := ih e2
      have hl : lo < x := by rw [h1]; omega
      exact ⟨by rw [h1, List.length_cons]; omega, by rw [rng_cons hl, ← h2], h3, h4⟩
    · rw [rng_nil (by omega)] at e; cases e
theorem at_rng {lo hi i : Int} (h0 : 0 ≤ i) (h1 : lo + i < hi) : at_ (rng lo hi) i = some (lo + i) := by
  refine at_int h0 ?_
  unfold rng
  rw [List.getElem?_map, List.getElem?_range (by omega)]
  show some (lo + (i.toNat : Int)) = _
  rw [Int.toNat_of_nonneg h0]
theorem setAt_ok {α : Type} {xs : List α} {i : Int} {x : α} (h0 : 0 ≤ i) (h1 : i < xs.length) : setAt xs i x = some (xs.set i.toNat x) := by
  unfold setAt ixN
  rw [if_pos h0, if_pos h1]; rfl
theorem at_get {α : Type} {xs : List α} {i : Int} {d : α} (h0 : 0 ≤ i) (h1 : i < xs.length) : at_ xs i = some (xs[i.toNat]?.getD d) := by
  obtain ⟨x, e, g⟩ := at_some h0 h1
  rw [e, g]; rfl
theorem contains_true {α : Type} [BEq α] [LawfulBEq α] {xs : List α} {x : α} (h : x ∈ xs) : xs.contains x = true := by rw [List.contains_iff_mem]; exact h
theorem contains_false {α : Type} [BEq α] [LawfulBEq α] {xs : List α} {x : α} (h : x ∉ xs) : xs.contains x = false := by
  cases e : xs.contains x with
  | false => rfl
  | true => exact absurd (List.contains_iff_mem.mp e) h
theorem nodup_mid {α : Type} {xs pre suf : List α} {x : α} (e : xs = pre ++ x :: suf) (h : xs.Nodup) : x ∉ pre := by
  intro hm
  rw [e] at h
  exact (List.pairwise_append.mp h).2.2 x hm x (List.mem_cons_self ..) rfl
theorem lt_nodup {xs : List Int} (h : xs.Pairwise (· < ·)) : xs.Nodup := List.Pairwise.imp (fun z e => by omega) h
theorem lt_len {xs : List Int} {n : Nat} (hp : xs.Pairwise (· < ·)) (hb : ∀ x ∈ xs, 0 ≤ x ∧ x < (n : Int)) : xs.length ≤ n := by
  have h2 : ∀ (n : Nat) (l : List Int) (lo : Int), l.Pairwise (· < ·) → (∀ x ∈ l, lo ≤ x ∧ x < lo + n) → l.length ≤ n := by
    intro n
    induction n with
    | zero =>
      intro l lo _ hb
      cases l with
      | nil => exact Nat.le_refl _
      | cons x l => have := hb x (List.mem_cons_self ..); omega
    | succ n ih =>
      intro l lo hp hb
      cases l with
      | nil => exact Nat.zero_le _
      | cons x l =>
        have hx := hb x (List.mem_cons_self ..)
        have pc := List.pairwise_cons.mp hp
        have := ih l (lo + 1) pc.2 (fun y hy => by
          have h1 := pc.1 y hy
          have h2 := hb y (List.mem_cons_of_mem _ hy)
          omega)
        rw [List.length_cons]; omega
  exact h2 n xs 0 hp (fun x hx => by have := hb x hx; omega)
theorem bdE {α β : Type} {m : Option α} {f : α → Option β} {x : α} {P : β → Prop} (h : m = some x) (k : ∃ r, f x = some r ∧ P r) : ∃ r, m.bind f = some r ∧ P r := by rw [h]; exact k
theorem bf {b : Bool} (h : ¬ b = true) : b = false := by cases b with
  | false => rfl
  | true => exact absurd rfl h
theorem rngL_ok {lo hi : Int} (h1 : -(2 ^ 60) ≤ lo) (h2 : lo < 2 ^ 60) (h3 : -(2 ^ 60) ≤ hi) (h4 : hi < 2 ^ 60) (h5 : (hi - lo).toNat ≤ 1000000) : rngL lo hi = some (rng lo hi) := by
  unfold rngL
  exact if_pos ⟨⟨h1, h2⟩, ⟨h3, h4⟩, h5⟩
theorem rep_flat {α : Type} (x : α) : ∀ n : Nat, (List.replicate n [x]).flatten = List.replicate n x
  | 0 => rfl
  | n + 1 => by rw [List.replicate_succ, List.flatten_cons, rep_flat x n, List.replicate_succ]; rfl
theorem repL_one {α : Type} (x : α) {n : Nat} (h : n ≤ 100000) : repL [x] (n : Int) = some (List.replicate n x) := by
  unfold repL
  have h2 : [x].length * ((n : Int)).toNat ≤ big := by
    rw [List.length_singleton, Nat.one_mul, Int.toNat_natCast]; exact le_big h
  rw [if_pos ⟨by omega, by omega, h2⟩, Int.toNat_natCast, rep_flat]
theorem bdP {α β γ : Type} {m : Option α} {f : α → Option (β × γ)} {x : α} {P : β → γ → Prop} (h : m = some x) (k : ∃ r h', f x = some (r, h') ∧ P r h') : ∃ r h', m.bind f = some (r, h') ∧ P r h' := by rw [h]; exact k
theorem iftP {β γ : Type} {b : Bool} {x y : Option (β × γ)} {P : β → γ → Prop} (h : b = true) (k : ∃ r h', x = some (r, h') ∧ P r h') : ∃ r h', (if b = true then x else y) = some (r, h') ∧ P r h' := by rw [if_pos h]; exact k
theorem iffP {β γ : Type} {b : Bool} {x y : Option (β × γ)} {P : β → γ → Prop} (h : b = false) (k : ∃ r h', y = some (r, h') ∧ P r h') : ∃ r h', (if b = true then x else y) = some (r, h') ∧ P r h' := by rw [h, if_neg Bool.false_ne_true]; exact k
theorem ltE {α β : Type} {e : α} {f : α → Option β} {r : Option β} (k : f e = r) : pyLet e f = r := k
theorem ltP' {α β γ : Type} {e : α} {f : α → Option (β × γ)} {P : β → γ → Prop} (k : ∃ r h', f e = some (r, h') ∧ P r h') : ∃ r h', pyLet e f = some (r, h') ∧ P r h' := k
theorem bdQ {α β γ : Type} {m : Option α} {f : α → Option (β × γ)} {x : α} {P : β → γ → Prop} (h : m = some x) (k : ∃ r h', f x = some (r, h') ∧ P r h') : ∃ r h', m.bind f = some (r, h') ∧ P r h' := bdP h k
theorem fmax (xs : List Int) : ∀ a : Int, (xs.foldl max a = a ∨ xs.foldl max a ∈ xs) ∧ a ≤ xs.foldl max a ∧ ∀ y ∈ xs, y ≤ xs.foldl max a := by
  induction xs with
  | nil => intro a; exact ⟨.inl rfl, Int.le_refl _, fun y h => nomatch h⟩
  | cons x xs ih =>
    intro a
    obtain ⟨h1, h2, h3⟩ := ih (max a x)
    show (xs.foldl max (max a x) = a ∨ _) ∧ a ≤ xs.foldl max (max a x) ∧ _
    refine ⟨?_, by omega, fun y hy => ?_⟩
    · rcases h1 with h1 | h1
      · by_cases hax : x ≤ a
        · exact .inl (by rw [h1]; omega)
        · refine .inr (List.mem_cons.mpr (.inl ?_)); show xs.foldl max (max a x) = x; rw [h1]; omega
      · exact .inr (List.mem_cons_of_mem _ h1)
    · show y ≤ xs.foldl max (max a x)
      rcases List.mem_cons.mp hy with rfl | hy
      · omega
      · exact h3 y hy
theorem lMax_is {xs : List Int} {m : Int} (h : lMax xs = some m) : 0 < xs.length ∧ m ∈ xs ∧ ∀ y ∈ xs, y ≤ m := by
  cases xs with
  | nil => cases h
  | cons x xs =>
    obtain rfl : (x :: xs).foldl max x = m := Option.some.inj h
    obtain ⟨h1, h2, h3⟩ := fmax (x :: xs) x
    refine ⟨Nat.succ_pos _, ?_, h3⟩
    rcases h1 with h1 | h1
    · rw [h1]; exact List.mem_cons_self ..
    · exact h1

/-! ### a drawn sea -/
abbrev SeaT := List Int × List (Int × Int) × List Int × List Int
def LanesU (n : Int) (ls : List (Int × Int)) : Prop := (∀ p ∈ ls, 0 ≤ p.1 ∧ p.1 < p.2 ∧ p.2 < n) ∧ ls.Nodup ∧ ls.length ≤ 66
def TideOk (t : List Int) : Prop := 1 ≤ t.length ∧ t.length ≤ 12 ∧ ∀ x ∈ t, 0 ≤ x ∧ x ≤ 20
def DeepOk (t : List Int) : Prop := 1 ≤ t.length ∧ t.length ≤ 12 ∧ ∀ x ∈ t, 0 ≤ x ∧ x ≤ 99
def PortOk (n : Int) (t : List Int) : Prop := t.Pairwise (· < ·) ∧ ∀ x ∈ t, 0 ≤ x ∧ x < n
def SeaOk (s : SeaT) : Prop := DeepOk s.1 ∧ LanesU s.1.length s.2.1 ∧ TideOk s.2.2.1 ∧ PortOk s.1.length s.2.2.2
theorem some_ok {h : List Int} (hh : Hd h) {n c : Int} (n0 : 0 ≤ n) (n1 : n ≤ 1000) (c0 : 1 ≤ c) (c1 : c ≤ 1000) : ∃ z h', m_l_some h n c = some (z, h') ∧ PortOk n z ∧ Hd h' := by
  simp only [m_l_some]
  rw [rngO_ok (by decide) (by decide) (by omega) (by omega)]; simp only [Option.bind_some]
  obtain ⟨e, he, p1, p2, p3, _⟩ := forN_ind (f := m_l_some_b1 c) (xs := rng 0 n) (s0 := (h, ([] : List Int))) (fun pre s => Hd s.1 ∧ s.2.Pairwise (· < ·) ∧ (∀ x ∈ s.2, 0 ≤ x ∧ x < (pre.length : Int)) ∧ s.2.length ≤ pre.length) ⟨hh, .nil, (fun x hx => nomatch hx), Nat.le_refl _⟩ (fun pre x suf s e hp => by
    obtain ⟨hs, hp1, hp2, hl⟩ := hp
    obtain ⟨e1, e2, _, e4⟩ := rng_mid e
    obtain ⟨r, h1, er, r0, r1, hh1⟩ := pick_ok hs (n := c) c0 (by omega)
    simp only [m_l_some_b1]
    rw [er]; simp only [Option.bind_some]
    have hl2 : ((pre ++ [x]).length : Int) = (pre.length : Int) + 1 := by rw [List.length_append]; rfl
    have hl3 : (pre ++ [x]).length = pre.length + 1 := by rw [List.length_append]; rfl
    by_cases c : r = 0
    · rw [if_pos (decide_eq_true c), app_ok (xs := s.2) (lt_big (by omega))]; simp only [Option.bind_some]
      refine ⟨_, rfl, hh1, ?_, ?_, ?_⟩
      · show (s.2 ++ [x]).Pairwise (· < ·)
        rw [List.pairwise_append]
        exact ⟨hp1, List.pairwise_singleton .., fun a ha b hb => by rw [List.mem_singleton] at hb; subst hb; have := hp2 a ha; omega⟩
      · intro y hy
        rcases List.mem_append.mp hy with hy | hy
        · have := hp2 y hy; omega
        · rw [List.mem_singleton] at hy; omega
      · show (s.2 ++ [x]).length ≤ _; rw [List.length_append, hl3]; show s.2.length + 1 ≤ _; omega
    · rw [if_neg (by simpa using c)]; simp only [Option.bind_some]
      exact ⟨_, rfl, hh1, hp1, fun y hy => by have := hp2 y hy; omega, by show s.2.length ≤ _; omega⟩)
  rw [he]; simp only [Option.bind_some]
  refine ⟨_, _, rfl, ⟨p2, fun x hx => ?_⟩, p1⟩
  have := p3 x hx
  rw [rng_length] at this; omega
theorem sea_ok {h : List Int} (hh : Hd h) {n : Int} (n0 : 1 ≤ n) (n1 : n ≤ 12) : ∃ s h', m_l_sea h n = some (s, h') ∧ SeaOk s ∧ Hd h' ∧ (s.1.length : Int) ≤ n ∧ s.2.2.1.length ≤ 3 ∧ ∃ r, s.2.2.1 = 0 :: r := by
  simp only [m_l_sea, pyLet]
  obtain ⟨a, h1, e1, a0, a1, hh1⟩ := pick_ok hh (n := n) n0 (by omega)
  rw [e1]; simp only [Option.bind_some]
  obtain ⟨b, h2, e2, b0, b1, hh2⟩ := pick_ok hh1 (n := 3) (by decide) (by decide)
  rw [e2]; simp only [Option.bind_some]
  obtain ⟨sp, e3, m3⟩ := at_mem (xs := [(2 : Int), (6 : Int), (100 : Int)]) b0 b1
  rw [e3]; simp only [Option.bind_some]
  have sp1 : 1 ≤ sp ∧ sp ≤ 100 := by simp at m3; omega
  obtain ⟨c, h3, e4, c0, c1, hh3⟩ := pick_ok hh2 (n := 3) (by decide) (by decide)
  rw [e4]; simp only [Option.bind_some]
  obtain ⟨sw, e5, m5⟩ := at_mem (xs := [(1 : Int), (4 : Int), (21 : Int)]) c0 c1
  rw [e5]; simp only [Option.bind_some]
  have sw1 : 1 ≤ sw ∧ sw ≤ 21 := by simp at m5; omega
  rw [rngO_ok (by decide) (by decide) (by omega) (by omega)]; simp only [Option.bind_some]
  obtain ⟨q, eq, q1, q2, q3, q4, q5, q6⟩ := forN_ind (f := m_l_sea_b1 sp) (xs := rng 0 (1 + a)) (s0 := (h3, ([] : List Int), ([] : List (Int × Int)))) (fun pre s => Hd s.1 ∧ s.2.1.length = pre.length ∧ (∀ x ∈ s.2.1, 0 ≤ x ∧ x ≤ 99) ∧ (∀ p ∈ s.2.2, 0 ≤ p.1 ∧ p.1 < p.2 ∧ p.2 < (pre.length : Int)) ∧ s.2.2.Nodup ∧ 2 * s.2.2.length + pre.length ≤ pre.length * pre.length) ⟨hh3, rfl, (fun x hx => nomatch hx), (fun x hx => nomatch hx), .nil, Nat.le_refl _⟩ (fun pre x suf s e hp => by
    obtain ⟨p1, p2, p3, p4, p5, p6⟩ := hp
    obtain ⟨g1, g2, _, g4⟩ := rng_mid e
    have hl2 : ((pre ++ [x]).length : Int) = (pre.length : Int) + 1 := by rw [List.length_append]; rfl
    have hl3 : (pre ++ [x]).length = pre.length + 1 := by rw [List.length_append]; rfl
    have pl : pre.length ≤ 12 := by omega
    have pm : pre.length * pre.length ≤ 12 * 12 := Nat.mul_le_mul pl pl
    simp only [m_l_sea_b1]
    obtain ⟨d, h4, e6, d0, d1, hh4⟩ := pick_ok p1 (n := sp) (by omega) (by omega)
    rw [e6]; simp only [Option.bind_some]
    rw [app_ok (xs := s.2.1) (lt_big (by omega))]; simp only [Option.bind_some]
    rw [rngO_ok (by decide) (by decide) (by omega) (by omega)]; simp only [Option.bind_some]
    obtain ⟨u, eu, u1, u2, u3, u4⟩ := forN_ind (f := m_l_sea_b2 x) (xs := rng 0 x) (s0 := (h4, s.2.2)) (fun pr t => Hd t.1 ∧ (∀ p ∈ t.2, p ∈ s.2.2 ∨ (p.2 = x ∧ 0 ≤ p.1 ∧ p.1 < (pr.length : Int))) ∧ t.2.Nodup ∧ t.2.length ≤ s.2.2.length + pr.length) ⟨hh4, fun p hp => .inl hp, p5, Nat.le_refl _⟩ (fun pr y sf t e' hp' => by
      obtain ⟨t1, t2, t3, t4⟩ := hp'
      obtain ⟨k1, _, _, k4⟩ := rng_mid e'
      have kl2 : ((pr ++ [y]).length : Int) = (pr.length : Int) + 1 := by rw [List.length_append]; rfl
      have kl3 : (pr ++ [y]).length = pr.length + 1 := by rw [List.length_append]; rfl
      simp only [m_l_sea_b2]
      obtain ⟨z, h5, e7, z0, z1, hh5⟩ := pick_ok t1 (n := 4) (by decide) (by decide)
      rw [e7]; simp only [Option.bind_some]
      by_cases cz : 0 < z
      · rw [if_pos (decide_eq_true cz), app_ok (xs := t.2) (lt_big (by omega))]; simp only [Option.bind_some]
        refine ⟨_, rfl, hh5, ?_, ?_, ?_⟩
        · intro p hp
          rcases List.mem_append.mp hp with hp | hp
          · rcases t2 p hp with h | h
            · exact .inl h
            · exact .inr ⟨h.1, h.2.1, by omega⟩
          · rw [List.mem_singleton] at hp; subst hp; exact .inr ⟨rfl, by show 0 ≤ y; omega, by show y < _; omega⟩
        · show (t.2 ++ [(y, x)]).Nodup
          rw [List.nodup_append]
          refine ⟨t3, List.nodup_cons.mpr ⟨List.not_mem_nil, .nil⟩, fun p hp p' hp' => ?_⟩
          rw [List.mem_singleton] at hp'; subst hp'
          intro he; subst he
          rcases t2 _ hp with h | h
          · have := p4 _ h; simp only at this; omega
          · have := h.2.2; simp only at this; omega
        · show (t.2 ++ [(y, x)]).length ≤ _; rw [List.length_append, kl3]; show t.2.length + 1 ≤ _; omega
      · rw [if_neg (by simpa using cz)]; simp only [Option.bind_some]
        exact ⟨_, rfl, hh5, fun p hp => by
          rcases t2 p hp with h | h
          · exact .inl h
          · exact .inr ⟨h.1, h.2.1, by omega⟩, t3, by show t.2.length ≤ _; omega⟩)
    rw [eu]; simp only [Option.bind_some]
    rw [rng_length] at u2 u4
    refine ⟨_, rfl, u1, ?_, ?_, ?_, u3, ?_⟩
    · show (s.2.1 ++ [d]).length = _; rw [List.length_append, hl3, p2]; rfl
    · intro y hy
      rcases List.mem_append.mp hy with hy | hy
      · exact p3 y hy
      · rw [List.mem_singleton] at hy; subst hy; omega
    · intro p hp
      rcases u2 p hp with h | h
      · have := p4 p h; omega
      · omega
    · show 2 * u.2.length + _ ≤ _
      have hx : (x - 0).toNat = pre.length := by omega
      rw [hl3, Nat.add_mul, Nat.mul_add]
      omega)
  rw [eq]; simp only [Option.bind_some]
  rw [rng_length] at q2 q4 q6
  have hn : (1 + a - 0).toNat = (1 + a).toNat := by omega
  obtain ⟨d, h4, e6, d0, d1, hh4⟩ := pick_ok q1 (n := 3) (by decide) (by decide)
  rw [e6]; simp only [Option.bind_some]
  rw [rngO_ok (by decide) (by decide) (by omega) (by omega)]; simp only [Option.bind_some]
  obtain ⟨u, eu, u1, u2, u3, u4⟩ := forN_ind (f := m_l_sea_b3 sw) (xs := rng 0 d) (s0 := (h4, [(0 : Int)])) (fun pr t => Hd t.1 ∧ (∀ y ∈ t.2, 0 ≤ y ∧ y ≤ 20) ∧ t.2.length = 1 + pr.length ∧ ∃ r, t.2 = 0 :: r) ⟨hh4, (fun y hy => by rw [List.mem_singleton] at hy; omega), rfl, [], rfl⟩ (fun pr y sf t e' hp' => by
    obtain ⟨t1, t2, t3, r, t4⟩ := hp'
    obtain ⟨k1, _, _, k4⟩ := rng_mid e'
    simp only [m_l_sea_b3]
    obtain ⟨z, h5, e7, z0, z1, hh5⟩ := pick_ok t1 (n := sw) (by omega) (by omega)
    rw [e7]; simp only [Option.bind_some]
    rw [app_ok (xs := t.2) (lt_big (by omega))]; simp only [Option.bind_some]
    refine ⟨_, rfl, hh5, ?_, ?_, r ++ [z], ?_⟩
    · intro p hp
      rcases List.mem_append.mp hp with hp | hp
      · exact t2 p hp
      · rw [List.mem_singleton] at hp; omega
    · show (t.2 ++ [z]).length = _; rw [List.length_append, List.length_append, t3]; rfl
    · show t.2 ++ [z] = _; rw [t4]; rfl)
  rw [eu]; simp only [Option.bind_some]
  rw [rng_length] at u3
  obtain ⟨z, h5, e8, hz, hh5⟩ := some_ok u1 (n := 1 + a) (c := 4) (by omega) (by omega) (by decide) (by decide)
  rw [e8]; simp only [Option.bind_some]
  have ql : (q.2.1.length : Int) = 1 + a := by omega
  refine ⟨_, _, rfl, ⟨⟨?_, ?_, q3⟩, ⟨?_, q5, ?_⟩, ⟨?_, ?_, u2⟩, ?_⟩, hh5, ?_, ?_, u4⟩
  · show 1 ≤ q.2.1.length; omega
  · show q.2.1.length ≤ 12; omega
  · intro p hp
    have := q4 p hp
    show _ ∧ _ ∧ p.2 < (q.2.1.length : Int); omega
  · show q.2.2.length ≤ 66
    have hm : (1 + a - 0).toNat * (1 + a - 0).toNat ≤ 12 * (1 + a - 0).toNat := Nat.mul_le_mul_right _ (by omega)
    omega
  · show 1 ≤ u.2.length; omega
  · show u.2.length ≤ 12; omega
  · show PortOk (q.2.1.length : Int) z; rw [ql]; exact hz
  · show (q.2.1.length : Int) ≤ n; omega
  · show u.2.length ≤ 3; omega

/-! ### a chart -/
def nrm (p : Int × Int) : Int × Int := (min p.1 p.2, max p.1 p.2)
/-- lanes in any direction -/
def LanesG (n : Int) (ls : List (Int × Int)) : Prop := (∀ p ∈ ls, 0 ≤ (nrm p).1 ∧ (nrm p).1 < (nrm p).2 ∧ (nrm p).2 < n) ∧ (ls.map nrm).Nodup ∧ ls.length ≤ 66
def HarbG (n : Int) (t : List Int) : Prop := t.Nodup ∧ (∀ x ∈ t, 0 ≤ x ∧ x < n) ∧ t.length ≤ 12
theorem nrm_up {p : Int × Int} (h : p.1 < p.2) : nrm p = p := Prod.ext (by show min p.1 p.2 = p.1; omega) (by show max p.1 p.2 = p.2; omega)
theorem map_nrm {ls : List (Int × Int)} (h : ∀ p ∈ ls, p.1 < p.2) : ls.map nrm = ls := by
  induction ls with
  | nil => rfl
  | cons p ls ih => rw [List.map_cons, nrm_up (h p (List.mem_cons_self ..)), ih fun q hq => h q (List.mem_cons_of_mem _ hq)]
theorem LanesU.g {n : Int} {ls : List (Int × Int)} (h : LanesU n ls) : LanesG n ls := by
  have e := map_nrm fun p hp => (h.1 p hp).2.1
  exact ⟨fun p hp => by rw [nrm_up (h.1 p hp).2.1]; exact h.1 p hp, by rw [e]; exact h.2.1, h.2.2⟩
theorem PortOk.g {n : Nat} {t : List Int} (h : PortOk n t) (hn : n ≤ 12) : HarbG n t := ⟨lt_nodup h.1, h.2, Nat.le_trans (lt_len h.1 h.2) hn⟩

theorem numbers_ok_0 {xs : List Int} {m g : Int} (h1 : 1 ≤ xs.length) (h2 : (xs.length : Int) ≤ m) (h : ∀ x ∈ xs, 0 ≤ x ∧ x ≤ g) : m_good_numbers xs m g = some true := by
  simp only [m_good_numbers]
  refine iff' (by simp; omega) ?_
  refine bd (forR_all fun x hx => ?_) rfl
  have := h x hx
  simp only [m_good_numbers_b1]
  exact iff' (by simp; omega) rfl
theorem depths_ok_0 {xs : List Int} (h : DeepOk xs) : m_good_depths xs = some true := by
  simp only [m_good_depths]
  exact bd (numbers_ok_0 h.1 (by have := h.2.1; omega) h.2.2) rfl
theorem tide_ok_0 {xs : List Int} (h : TideOk xs) : m_good_tide xs = some true := by
  simp only [m_good_tide]
  exact bd (numbers_ok_0 h.1 (by have := h.2.1; omega) h.2.2) rfl
theorem harb_ok_0 {xs : List Int} {n : Int} (h : HarbG n xs) : m_good_harbours xs n = some true := by
  simp only [m_good_harbours, m_is_zone_0]
  refine bd (bd (forR_thru (fun pre => pre) rfl fun pre x suf e => ?_) rfl) rfl
  have hx := h.2.1 x (mem_mid e)
  have hl : pre.length ≤ 12 := by have := congrArg List.length e; rw [List.length_append] at this; have := h.2.2; omega
  have hc := contains_false (nodup_mid e h.1)
  simp only [m_is_zone_0_b1]
  refine iff' (by rw [hc]; simp; omega) ?_
  refine bd (show sadd pre x = some (pre ++ [x]) from ?_) rfl
  unfold sadd
  rw [if_pos (by omega), hc]; rfl
theorem lanes_ok_0 {ls : List (Int × Int)} {n : Int} (h : LanesG n ls) : m_good_lanes ls n = some true := by
  simp only [m_good_lanes]
  refine bd (forR_thru (fun pre => pre.map nrm) rfl fun pre x suf e => ?_) rfl
  have hx := h.1 x (mem_mid e)
  have hl : pre.length ≤ 66 := by have := congrArg List.length e; rw [List.length_append] at this; have := h.2.2; omega
  have hc : (pre.map nrm).contains (nrm x) = false := contains_false (nodup_mid (xs := ls.map nrm) (suf := suf.map nrm) (by rw [e, List.map_append, List.map_cons]) h.2.1)
  simp only [m_good_lanes_b1, pyLet]
  have c1 : ¬ (min x.1 x.2 : Int) < 0 := by have := hx.1; unfold nrm at this; simp only at this; omega
  have c2 : ¬ n ≤ (max x.1 x.2 : Int) := by have := hx.2.2; unfold nrm at this; simp only at this; omega
  have c3 : ¬ (min x.1 x.2 : Int) = (max x.1 x.2 : Int) := by have := hx.2.1; unfold nrm at this; simp only at this; omega
  refine bd (iff' (decide_eq_false c1) (iff' (decide_eq_false c2) (iff' (decide_eq_false c3) (congrArg some hc)))) ?_
  refine iff' rfl ?_
  refine bd (show saddP (pre.map nrm) (nrm x) = some (pre.map nrm ++ [nrm x]) from ?_) (by rw [List.map_append]; rfl)
  unfold saddP
  rw [if_pos (by rw [List.length_map]; omega), hc]; rfl
theorem ordered_ok_0 {ls : List (Int × Int)} (h : ls.length ≤ 66) : m_ordered_lanes ls = some (sortP (ls.map nrm)) := by
  simp only [m_ordered_lanes]
  refine bd (forN_thru (fun pre => pre.map nrm) rfl fun pre x suf e => ?_) rfl
  have hl : pre.length ≤ 66 := by have := congrArg List.length e; rw [List.length_append] at this; omega
  simp only [m_ordered_lanes_b1]
  refine bd (app_ok (xs := pre.map nrm) (lt_big (by rw [List.length_map]; omega))) (by rw [List.map_append]; rfl)

/-- the neighbours of a place, in the order of the lanes -/
def nbOf (ls : List (Int × Int)) (p : Int) : List Int := ls.flatMap fun q => if q.1 = p then [q.2] else if q.2 = p then [q.1] else []
theorem nbOf_le (ls : List (Int × Int)) (p : Int) : (nbOf ls p).length ≤ ls.length := flat_le (fun q => by by_cases h1 : q.1 = p <;> by_cases h2 : q.2 = p <;> simp [h1, h2]) ls
def rowsOf (n : Nat) (ls : List (Int × Int)) : List (List Int) := (List.range n).map fun (k : Nat) => nbOf ls (k : Int)
theorem nbOf_app (ls : List (Int × Int)) (q : Int × Int) (p : Int) : nbOf (ls ++ [q]) p = nbOf ls p ++ (if q.1 = p then [q.2] else if q.2 = p then [q.1] else []) := by
  unfold nbOf
  rw [List.flatMap_append, List.flatMap_cons, List.flatMap_nil, List.append_nil]
theorem rowsOf_at {n : Nat} {ls : List (Int × Int)} {k : Nat} (h : k < n) : (rowsOf n ls)[k]? = some (nbOf ls (k : Int)) := by
  unfold rowsOf
  rw [List.getElem?_map, List.getElem?_range h]; rfl
theorem rowsOf_len (n : Nat) (ls : List (Int × Int)) : (rowsOf n ls).length = n := by unfold rowsOf; rw [List.length_map, List.length_range]
theorem appIn_ok {α : Type} {xs : List (List α)} {i : Int} {x : α} {row : List α} (h0 : 0 ≤ i) (hr : xs[i.toNat]? = some row) (hl : row.length ≤ 100000) : appIn xs i x = some (xs.set i.toNat (row ++ [x])) := by
  have hj : i.toNat < xs.length := (List.getElem?_eq_some_iff.mp hr).1
  unfold appIn ixN
  rw [if_pos h0, if_pos (by omega), Option.bind_some, hr, Option.bind_some, app_ok (lt_big hl)]; rfl
theorem joined_ok {n : Nat} {ls : List (Int × Int)} (hn : n ≤ 100) (hl : ls.length ≤ 66) (h : ∀ p ∈ ls, 0 ≤ p.1 ∧ p.1 < p.2 ∧ p.2 < n) : m_joined_places (n : Int) ls = some (rowsOf n ls) := by
  simp only [m_joined_places]
  rw [rngO_ok (by decide) (by decide) (by omega) (by omega)]; simp only [Option.bind_some]
  rw [forN_thru (f := m_joined_places_b1) (s0 := ([] : List (List Int))) (fun pre => (pre.map fun _ => ([] : List Int))) rfl (fun pre x suf e => by
    have hl2 : pre.length ≤ 100 := by have := congrArg List.length e; rw [List.length_append, rng_length] at this; omega
    simp only [m_joined_places_b1]
    exact bd (app_ok (xs := pre.map fun _ => ([] : List Int)) (lt_big (by rw [List.length_map]; omega))) (by rw [List.map_append]; rfl))]
  simp only [Option.bind_some]
  have e0 : (rng 0 (n : Int)).map (fun _ => ([] : List Int)) = rowsOf n [] := by
    unfold rowsOf rng
    rw [List.map_map]
    have : ((n : Int) - 0).toNat = n := by omega
    rw [this]; rfl
  rw [e0]
  rw [forN_thru (f := m_joined_places_b2) (rowsOf n) rfl (fun pre x suf e => by
    obtain ⟨h1, h2, h3⟩ := h x (mem_mid e)
    have hp : pre.length ≤ 66 := by have := congrArg List.length e; rw [List.length_append] at this; omega
    have k1 : x.1.toNat < n := by omega
    have k2 : x.2.toNat < n := by omega
    have i1 : ((x.1.toNat : Nat) : Int) = x.1 := by omega
    have i2 : ((x.2.toNat : Nat) : Int) = x.2 := by omega
    have r1 := rowsOf_at (ls := pre) k1
    have r2 := rowsOf_at (ls := pre) k2
    rw [i1] at r1; rw [i2] at r2
    simp only [m_joined_places_b2]
    refine bd (at_int h1 r1) ?_
    refine bd (appIn_ok h1 r1 (Nat.le_trans (nbOf_le _ _) (by omega))) ?_
    have r3 : ((rowsOf n pre).set x.1.toNat (nbOf pre x.1 ++ [x.2]))[x.2.toNat]? = some (nbOf pre x.2) := by
      rw [List.getElem?_set_ne (by omega)]; exact r2
    refine bd (at_int (by omega) r3) ?_
    refine bd (appIn_ok (by omega) r3 (Nat.le_trans (nbOf_le _ _) (by omega))) ?_
    congr 1
    apply List.ext_getElem?
    intro k
    by_cases hk : k < n
    · rw [rowsOf_at hk, nbOf_app]
      by_cases c2 : x.2.toNat = k
      · subst c2
        rw [List.getElem?_set_self (by rw [List.length_set, rowsOf_len]; exact hk), i2, if_neg (by omega), if_pos rfl]
      · rw [List.getElem?_set_ne c2]
        by_cases c1 : x.1.toNat = k
        · subst c1
          rw [List.getElem?_set_self (by rw [rowsOf_len]; exact hk), i1, if_pos rfl]
        · rw [List.getElem?_set_ne c1, rowsOf_at hk, if_neg (by omega), if_neg (by omega), List.append_nil]
    · rw [List.getElem?_eq_none (by rw [List.length_set, List.length_set, rowsOf_len]; omega), List.getElem?_eq_none (by rw [rowsOf_len]; omega)])]
  simp only [Option.bind_some]
  rw [forN_thru (f := m_joined_places_b3) (s0 := ([] : List (List Int))) (fun pre => pre) rfl (fun pre x suf e => by
    have hl2 : pre.length ≤ 100 := by have := congrArg List.length e; rw [List.length_append, rowsOf_len] at this; omega
    simp only [m_joined_places_b3]
    exact bd (app_ok (xs := pre) (lt_big (by omega))) rfl)]
  simp only [Option.bind_some]
theorem sortP_mem {xs : List (Int × Int)} {p : Int × Int} : p ∈ sortP xs ↔ p ∈ xs := (List.mergeSort_perm xs leP).mem_iff
theorem sortP_len {xs : List (Int × Int)} : (sortP xs).length = xs.length := (List.mergeSort_perm xs leP).length_eq
abbrev ChT := Int × List Int × List (Int × Int) × List Int × List Int × List (List Int)
/-- what a chart holds -/
def chOf (d : List Int) (ls : List (Int × Int)) (t hs : List Int) : ChT := ((d.length : Int), d, sortP (ls.map nrm), t, sortI hs, rowsOf d.length (sortP (ls.map nrm)))
theorem joined_of {n : Nat} {ls : List (Int × Int)} (hn : n ≤ 12) (h : LanesG n ls) : m_joined_places (n : Int) (sortP (ls.map nrm)) = some (rowsOf n (sortP (ls.map nrm))) :=
  joined_ok (by omega) (by rw [sortP_len, List.length_map]; exact h.2.2) (fun p hp => by
    rw [sortP_mem, List.mem_map] at hp
    obtain ⟨q, hq, rfl⟩ := hp
    exact h.1 q hq)

/-! ### lists that ascend -/
theorem asc_ext {α : Type} {r : α → α → Prop} (asy : ∀ a b, r a b → r b a → False) : ∀ {xs ys : List α}, xs.Pairwise r → ys.Pairwise r → (∀ a, a ∈ xs ↔ a ∈ ys) → xs = ys
  | [], [], _, _, _ => rfl
  | [], y :: ys, _, _, h => absurd ((h y).mpr (List.mem_cons_self ..)) List.not_mem_nil
  | x :: xs, [], _, _, h => absurd ((h x).mp (List.mem_cons_self ..)) List.not_mem_nil
  | x :: xs, y :: ys, h1, h2, h => by
    have p1 := List.pairwise_cons.mp h1
    have p2 := List.pairwise_cons.mp h2
    have e : x = y := by
      rcases List.mem_cons.mp ((h x).mp (List.mem_cons_self ..)) with e | e
      · exact e
      · rcases List.mem_cons.mp ((h y).mpr (List.mem_cons_self ..)) with e2 | e2
        · exact e2.symm
        · exact (asy _ _ (p1.1 y e2) (p2.1 x e)).elim
    subst e
    rw [asc_ext asy p1.2 p2.2 fun a => ?_]
    constructor
    · intro ha
      rcases List.mem_cons.mp ((h a).mp (List.mem_cons_of_mem _ ha)) with e | e
      · subst e; exact (asy _ _ (p1.1 a ha) (p1.1 a ha)).elim
      · exact e
    · intro ha
      rcases List.mem_cons.mp ((h a).mpr (List.mem_cons_of_mem _ ha)) with e | e
      · subst e; exact (asy _ _ (p2.1 a ha) (p2.1 a ha)).elim
      · exact e
theorem asc_extI {xs ys : List Int} (h1 : xs.Pairwise (· < ·)) (h2 : ys.Pairwise (· < ·)) (h : ∀ a, a ∈ xs ↔ a ∈ ys) : xs = ys := asc_ext (fun a b h h' => by omega) h1 h2 h
def ltP (a b : Int × Int) : Prop := a.1 < b.1 ∨ (a.1 = b.1 ∧ a.2 < b.2)
theorem asc_extP {xs ys : List (Int × Int)} (h1 : xs.Pairwise ltP) (h2 : ys.Pairwise ltP) (h : ∀ a, a ∈ xs ↔ a ∈ ys) : xs = ys := asc_ext (fun a b h h' => by unfold ltP at *; omega) h1 h2 h
theorem pw_flat {α β : Type} {r : β → β → Prop} {f : α → List β} : ∀ {xs : List α}, (∀ a ∈ xs, (f a).Pairwise r) → xs.Pairwise (fun a b => ∀ x ∈ f a, ∀ y ∈ f b, r x y) → (xs.flatMap f).Pairwise r
  | [], _, _ => .nil
  | a :: xs, h1, h2 => by
    have pc := List.pairwise_cons.mp h2
    rw [List.flatMap_cons, List.pairwise_append]
    refine ⟨h1 a (List.mem_cons_self ..), pw_flat (fun b hb => h1 b (List.mem_cons_of_mem _ hb)) pc.2, fun x hx y hy => ?_⟩
    obtain ⟨b, hb, hyb⟩ := List.mem_flatMap.mp hy
    exact pc.1 b hb x hx y hyb
theorem pw_imp {α : Type} {r q : α → α → Prop} : ∀ {xs : List α}, xs.Pairwise r → (∀ a ∈ xs, ∀ b ∈ xs, r a b → q a b) → xs.Pairwise q
  | [], _, _ => .nil
  | x :: xs, h, k => by
    have pc := List.pairwise_cons.mp h
    exact List.pairwise_cons.mpr ⟨fun y hy => k x (List.mem_cons_self ..) y (List.mem_cons_of_mem _ hy) (pc.1 y hy), pw_imp pc.2 fun a ha b hb => k a (List.mem_cons_of_mem _ ha) b (List.mem_cons_of_mem _ hb)⟩
theorem pw_and {α : Type} {r q : α → α → Prop} : ∀ {xs : List α}, xs.Pairwise r → xs.Pairwise q → xs.Pairwise (fun a b => r a b ∧ q a b)
  | [], _, _ => .nil
  | x :: xs, h, k => by
    have p1 := List.pairwise_cons.mp h
    have p2 := List.pairwise_cons.mp k
    exact List.pairwise_cons.mpr ⟨fun y hy => ⟨p1.1 y hy, p2.1 y hy⟩, pw_and p1.2 p2.2⟩
theorem leP_mi {a b : Int × Int} : leP a b = true ↔ (a.1 < b.1 ∨ (a.1 = b.1 ∧ a.2 ≤ b.2)) := by unfold leP; exact decide_eq_true_iff
theorem sortP_lt {xs : List (Int × Int)} (h : xs.Nodup) : (sortP xs).Pairwise ltP := by
  have h1 : (sortP xs).Pairwise (fun a b => leP a b = true) := List.pairwise_mergeSort (le := leP) (fun a b c h1 h2 => by rw [leP_mi] at *; omega) (fun a b => by rw [Bool.or_eq_true, leP_mi, leP_mi]; omega) xs
  have h2 : (sortP xs).Nodup := (List.mergeSort_perm xs leP).nodup_iff.mpr h
  exact List.Pairwise.imp (fun {a b} z => by
    have z1 := leP_mi.mp z.1
    have z2 : a ≠ b := z.2
    unfold ltP
    by_cases e : a.1 = b.1
    · by_cases e2 : a.2 = b.2
      · exact absurd (Prod.ext e e2) z2
      · omega
    · omega) (pw_and h1 h2)
theorem nb_mem {ls : List (Int × Int)} (hl : ∀ p ∈ ls, p.1 < p.2) {p q : Int} : q ∈ nbOf ls p ↔ ((p, q) ∈ ls ∨ (q, p) ∈ ls) := by
  unfold nbOf
  rw [List.mem_flatMap]
  constructor
  · rintro ⟨l, h1, h2⟩
    by_cases c1 : l.1 = p
    · rw [if_pos c1, List.mem_singleton] at h2
      exact .inl (by rw [show (p, q) = l from Prod.ext c1.symm h2]; exact h1)
    · rw [if_neg c1] at h2
      by_cases c2 : l.2 = p
      · rw [if_pos c2, List.mem_singleton] at h2
        exact .inr (by rw [show (q, p) = l from Prod.ext h2 c2.symm]; exact h1)
      · rw [if_neg c2] at h2; exact absurd h2 List.not_mem_nil
  · rintro (h | h)
    · exact ⟨_, h, by rw [if_pos rfl]; exact List.mem_singleton.mpr rfl⟩
    · have := hl _ h
      exact ⟨_, h, by rw [if_neg (by show ¬ q = p; simp only at this; omega), if_pos rfl]; exact List.mem_singleton.mpr rfl⟩
theorem nb_asc {ls : List (Int × Int)} (hl : ∀ p ∈ ls, p.1 < p.2) (hs : ls.Pairwise ltP) (p : Int) : (nbOf ls p).Pairwise (· < ·) := by
  unfold nbOf
  refine pw_flat (fun a _ => ?_) (pw_imp hs fun a ha b hb hab x hx y hy => ?_)
  · by_cases c1 : a.1 = p
    · rw [if_pos c1]; exact List.pairwise_singleton ..
    · rw [if_neg c1]
      by_cases c2 : a.2 = p
      · rw [if_pos c2]; exact List.pairwise_singleton ..
      · rw [if_neg c2]; exact .nil
  · have a1 := hl a ha
    have b1 := hl b hb
    unfold ltP at hab
    by_cases c1 : a.1 = p <;> by_cases c2 : a.2 = p <;> by_cases c3 : b.1 = p <;> by_cases c4 : b.2 = p <;> simp [c1, c2, c3, c4] at hx hy <;> omega
theorem LanesG.map {n : Int} {ls : List (Int × Int)} (h : LanesG n ls) : ∀ p ∈ ls.map nrm, 0 ≤ p.1 ∧ p.1 < p.2 ∧ p.2 < n := fun p hp => by
  obtain ⟨q, hq, rfl⟩ := List.mem_map.mp hp
  exact h.1 q hq
/-- the neighbours that a chart tells -/
theorem nb_spec {n : Int} {ls : List (Int × Int)} (h : LanesG n ls) (p : Int) : (nbOf (sortP (ls.map nrm)) p).Pairwise (· < ·) ∧ ∀ q, q ∈ nbOf (sortP (ls.map nrm)) p ↔ ((p, q) ∈ ls.map nrm ∨ (q, p) ∈ ls.map nrm) := by
  have hl : ∀ p ∈ sortP (ls.map nrm), p.1 < p.2 := fun p hp => (h.map p (sortP_mem.mp hp)).2.1
  exact ⟨nb_asc hl (sortP_lt h.2.1) p, fun q => by rw [nb_mem hl, sortP_mem, sortP_mem]⟩
theorem sub_lanes {n : Int} {ls ks : List (Int × Int)} (h : LanesU n ls) (s : ks.Sublist ls) : LanesU n ks := ⟨fun p hp => h.1 p (s.subset hp), s.nodup h.2.1, Nat.le_trans s.length_le h.2.2⟩
theorem filt_mem {f : Int → Bool} {n x : Int} : x ∈ (rng 0 n).flatMap (fun x => if f x = true then [x] else []) ↔ (0 ≤ x ∧ x < n) ∧ f x = true := by
  rw [List.mem_flatMap]
  constructor
  · rintro ⟨y, h1, h2⟩
    by_cases c : f y = true
    · rw [if_pos c, List.mem_singleton] at h2; subst h2; exact ⟨mem_rng.mp h1, c⟩
    · rw [if_neg c] at h2; exact absurd h2 List.not_mem_nil
  · rintro ⟨h1, h2⟩
    exact ⟨x, mem_rng.mpr h1, by rw [if_pos h2]; exact List.mem_singleton.mpr rfl⟩
theorem filt_lt (f : Int → Bool) (n : Int) : ((rng 0 n).flatMap (fun x => if f x = true then [x] else [])).Pairwise (· < ·) :=
  (pairwise_flat (r := (· < ·)) (h := fun x : Int => if f x = true then [x] else []) (fun x => by by_cases h : f x = true <;> simp [h]) (rng_lt 0 n)).1
theorem sortI_mem {xs : List Int} {a : Int} : a ∈ sortI xs ↔ a ∈ xs := (List.mergeSort_perm xs _).mem_iff
theorem sortI_lt {xs : List Int} (h : xs.Nodup) : (sortI xs).Pairwise (· < ·) := by
  have h1 : (sortI xs).Pairwise (fun a b => decide (a ≤ b) = true) := List.pairwise_mergeSort (le := fun a b : Int => decide (a ≤ b)) (fun a b c h1 h2 => by simp at *; omega) (fun a b => by simp; omega) xs
  have h2 : (sortI xs).Nodup := (List.mergeSort_perm xs _).nodup_iff.mpr h
  exact List.Pairwise.imp (fun {a b} z => by
    have z1 := of_decide_eq_true z.1
    have z2 : a ≠ b := z.2
    omega) (pw_and h1 h2)

theorem init_ok {d t hs : List Int} {ls : List (Int × Int)} (hd : DeepOk d) (hl : LanesG d.length ls) (ht : TideOk t) (hh : HarbG d.length hs) : m_Chart_init d ls t hs = some (chOf d ls t hs) := by
  simp only [m_Chart_init]
  refine bd (depths_ok_0 hd) (iff' rfl ?_)
  refine bd (lanes_ok_0 hl) (iff' rfl ?_)
  refine bd (tide_ok_0 ht) (iff' rfl ?_)
  refine bd (harb_ok_0 hh) (iff' rfl ?_)
  refine bd (ordered_ok_0 hl.2.2) ?_
  exact bd (joined_of hd.2.1 hl) rfl
theorem chart_ok {s : SeaT} (h : SeaOk s) : m_l_chart s = some (chOf s.1 s.2.1 s.2.2.1 s.2.2.2) := by
  simp only [m_l_chart]
  exact bd (init_ok h.1 h.2.1.g h.2.2.1 (h.2.2.2.g h.1.2.1)) rfl

abbrev Nt := Int × Int × List Int × Int × Bool
def Zn (z : List Int) : Prop := z.Pairwise (· < ·) ∧ ∀ x ∈ z, 0 ≤ x ∧ x < 12
def Gd (n : Nt) : Prop := 0 ≤ n.1 ∧ n.1 ≤ 3 ∧ 0 ≤ n.2.1 ∧ n.2.1 ≤ 24 ∧ Zn n.2.2.1 ∧ 1 ≤ n.2.2.2.1 ∧ n.2.2.2.1 ≤ 99
theorem places_ok (c : Int) : ∃ z, m_l_places c = some z ∧ Zn z := by
  simp only [m_l_places, pyLet]
  have j1 : ∃ b : Int, (if decide (c % 6 = 0) = true then some (0 : Int) else some (c / 6)) = some b := by split <;> exact ⟨_, rfl⟩
  obtain ⟨b, e1⟩ := j1
  rw [e1]; simp only [Option.bind_some]
  have j2 : ∃ b2 : Int, (if decide (c % 6 = 1) = true then some (4095 : Int) else some b) = some b2 := by split <;> exact ⟨_, rfl⟩
  obtain ⟨b2, e2⟩ := j2
  rw [e2]; simp only [Option.bind_some]
  have m0 := Int.emod_nonneg b2 (show (12 : Int) ≠ 0 by decide)
  have m1 := Int.emod_lt_of_pos b2 (show (0 : Int) < 12 by decide)
  have j3 : ∃ b3 : Int, (if decide (c % 6 = 2) = true then (shl 1 (b2 % 12)).bind fun x8 => some x8 else some b2) = some b3 := by
    split
    · rw [show shl 1 (b2 % 12) = some (1 * 2 ^ (b2 % 12).toNat) from if_pos ⟨m0, by omega, by decide, by decide⟩]
      exact ⟨_, rfl⟩
    · exact ⟨_, rfl⟩
  obtain ⟨b3, e3⟩ := j3
  rw [e3]; simp only [Option.bind_some]
  rw [rngO_ok (by decide) (by decide) (by decide) (by decide)]; simp only [Option.bind_some]
  rw [forN_flat (h := fun x => if b3 / 2 ^ x.toNat % 2 = 1 then [x] else []) (fun x => by split <;> simp) (by rw [rng_length]; decide) (fun acc x hx hb => by
    have hx0 := (mem_rng.mp hx).1
    simp only [m_l_places_b1]
    rw [show shr b3 x = some (b3 / 2 ^ x.toNat) from if_pos hx0]
    simp only [Option.bind_some]
    by_cases h : b3 / 2 ^ x.toNat % 2 = 1
    · rw [if_pos (decide_eq_true h), app_ok hb, if_pos h]; rfl
    · rw [if_neg (by simpa using h), if_neg h, List.append_nil])]
  simp only [Option.bind_some]
  obtain ⟨p1, p2⟩ := pairwise_flat (r := (· < ·)) (h := fun x : Int => if b3 / 2 ^ x.toNat % 2 = 1 then [x] else []) (fun x => by by_cases h : b3 / 2 ^ x.toNat % 2 = 1 <;> simp [h]) (rng_lt 0 12)
  exact ⟨_, rfl, p1, fun x hx => mem_rng.mp (p2 x hx)⟩
theorem wild_ok {h : List Int} (hh : Hd h) {cnt last num : Int} (c0 : 0 ≤ cnt) (c1 : cnt ≤ 50) (l0 : 0 ≤ last) (l1 : last ≤ 24) (n0 : 0 ≤ num) (n1 : num ≤ 3) : ∃ N h', m_l_wild h cnt last num = some (N, h') ∧ (∀ n ∈ N, Gd n) ∧ N.length ≤ 50 ∧ Hd h' := by
  simp only [m_l_wild]
  rw [rngO_ok (by decide) (by decide) (by omega) (by omega)]; simp only [Option.bind_some]
  have key : ∀ (ks : List Int) (h : List Int) (N : List Nt), Hd h → (∀ n ∈ N, Gd n) → N.length + ks.length ≤ 50 → ∃ h' N', forN (m_l_wild_b1 last num) (h, N) ks = some (h', N') ∧ (∀ n ∈ N', Gd n) ∧ N'.length ≤ 50 ∧ Hd h' := by
    intro ks
    induction ks with
    | nil => intro h N hh hN hl; exact ⟨h, N, rfl, hN, by simpa using hl, hh⟩
    | cons k ks ih =>
      intro h N hh hN hl
      rw [List.length_cons] at hl
      rw [forN_cons]
      simp only [m_l_wild_b1, pyLet]
      obtain ⟨a, h1, e1, a0, a1, hh1⟩ := pick_ok hh (n := 12) (by decide) (by decide)
      rw [e1]; simp only [Option.bind_some]
      obtain ⟨b, h2, e2, b0, b1, hh2⟩ := pick_ok hh1 (n := 100) (by decide) (by decide)
      rw [e2]; simp only [Option.bind_some]
      obtain ⟨c, h3, e3, c0, c1, hh3⟩ := pick_ok hh2 (n := 24576) (by decide) (by decide)
      rw [e3]; simp only [Option.bind_some]
      obtain ⟨z, e4, hz⟩ := places_ok c
      rw [e4]; simp only [Option.bind_some]
      obtain ⟨w, h5, e5, w0, w1, hh5⟩ := pick_ok hh3 (n := 198) (by decide) (by decide)
      rw [e5]; simp only [Option.bind_some]
      have j1 : ∃ x : Int, (if decide (3 < a) = true then some num else some a) = some x ∧ 0 ≤ x ∧ x ≤ 3 := by
        by_cases q : 3 < a
        · rw [if_pos (decide_eq_true q)]; exact ⟨_, rfl, n0, n1⟩
        · rw [if_neg (by simpa using q)]; exact ⟨_, rfl, a0, by omega⟩
      obtain ⟨x, e6, x0, x1⟩ := j1
      rw [e6]; simp only [Option.bind_some]
      have j2 : ∃ y : Int, (if decide (b < 75) = true then (mod b (last + 1)).bind fun x49 => some x49 else some (b - 75)) = some y ∧ 0 ≤ y ∧ y ≤ 24 := by
        by_cases q : b < 75
        · rw [if_pos (decide_eq_true q), mod_ok (by omega)]
          have m0 := Int.emod_nonneg b (show last + 1 ≠ 0 by omega)
          have m1 := Int.emod_lt_of_pos b (show 0 < last + 1 by omega)
          exact ⟨_, rfl, m0, by omega⟩
        · rw [if_neg (by simpa using q)]; exact ⟨_, rfl, by omega, by omega⟩
      obtain ⟨y, e7, y0, y1⟩ := j2
      rw [e7]; simp only [Option.bind_some]
      rw [app_ok (show N.length < big by show N.length < 1000000; omega)]; simp only [Option.bind_some]
      refine ih h5 _ hh5 (fun n hn => ?_) (by rw [List.length_append]; show N.length + 1 + ks.length ≤ 50; omega)
      rcases List.mem_append.mp hn with hn | hn
      · exact hN n hn
      · obtain rfl := List.mem_singleton.mp hn
        exact ⟨x0, x1, y0, y1, hz, by show 1 ≤ 1 + w / 2; omega, by show 1 + w / 2 ≤ 99; omega⟩
  obtain ⟨h', N', e, p1, p2, p3⟩ := key (rng 0 cnt) h [] hh (fun n hn => by cases hn) (by rw [rng_length]; show 0 + (cnt - 0).toNat ≤ 50; omega)
  rw [e]; exact ⟨N', h', rfl, p1, p2, p3⟩

theorem cut_drop {α : Type} {xs : List α} {i : Int} (h0 : 0 ≤ i) (h1 : i ≤ xs.length) : cut xs (some i) none = xs.drop i.toNat := by
  show (xs.drop (if i < 0 then (i + (xs.length : Int)).toNat else min i.toNat xs.length)).take (xs.length - (if i < 0 then (i + (xs.length : Int)).toNat else min i.toNat xs.length)) = _
  rw [if_neg (by omega), Nat.min_eq_left (by omega), List.take_of_length_le (by rw [List.length_drop]; omega)]
theorem cut_take {α : Type} {xs : List α} {i : Int} (h0 : 0 ≤ i) (h1 : i ≤ xs.length) : cut xs none (some i) = xs.take i.toNat := by
  show (xs.drop 0).take ((if i < 0 then (i + (xs.length : Int)).toNat else min i.toNat xs.length) - 0) = _
  rw [if_neg (by omega), Nat.min_eq_left (by omega), List.drop_zero, Nat.sub_zero]
theorem turned_ok {c : Int} {z : List Int} (h : z.length ≤ 12) : ∃ t, m_l_turned c z = some t ∧ t.Perm z := by
  unfold m_l_turned
  have m0 := Int.emod_nonneg (c / 2) (show (max 1 (z.length : Int)) ≠ 0 by omega)
  have m1 := Int.emod_lt_of_pos (c / 2) (show 0 < (max 1 (z.length : Int)) by omega)
  have hb : c / 2 % max 1 (z.length : Int) ≤ z.length := by omega
  have e1 := cut_drop (xs := z) m0 hb
  have e2 := cut_take (xs := z) m0 hb
  have pm : (cut z (some (c / 2 % max 1 (z.length : Int))) none ++ cut z none (some (c / 2 % max 1 (z.length : Int)))).Perm z := by
    rw [e1, e2]
    have := List.take_append_drop (c / 2 % max 1 (z.length : Int)).toNat z
    exact List.perm_append_comm.trans (by rw [this])
  have pl := pm.length_eq
  rw [List.length_append] at pl
  by_cases k : c % 2 = 1
  · exact ⟨_, bd (mod_ok (by omega)) (ltE (bd (cat_ok (le_big (by omega))) (bd (ift (decide_eq_true k) rfl) rfl))), (List.reverse_perm _).trans pm⟩
  · exact ⟨_, bd (mod_ok (by omega)) (ltE (bd (cat_ok (le_big (by omega))) (bd (iff' (decide_eq_false k) rfl) rfl))), pm⟩
theorem zoneN_0 {xs : List Int} (h : HarbG 12 xs) : m_is_zone_0 xs 12 = some true := by
  unfold m_is_zone_0
  refine bd (forR_thru (fun pre => pre) rfl fun pre x suf e => ?_) rfl
  have hx := h.2.1 x (mem_mid e)
  have hl : pre.length ≤ 12 := by have := congrArg List.length e; rw [List.length_append] at this; have := h.2.2; omega
  have hc := contains_false (nodup_mid e h.1)
  unfold m_is_zone_0_b1
  refine iff' (by rw [hc]; simp; omega) ?_
  refine bd (show sadd pre x = some (pre ++ [x]) from ?_) rfl
  unfold sadd
  rw [if_pos (by omega), hc]; rfl
theorem zoneN_1 {xs : List Int} (h : HarbG 12 xs) : m_is_zone_1 xs 12 = some true := by
  unfold m_is_zone_1
  refine bd (forR_thru (fun pre => pre) rfl fun pre x suf e => ?_) rfl
  have hx := h.2.1 x (mem_mid e)
  have hl : pre.length ≤ 12 := by have := congrArg List.length e; rw [List.length_append] at this; have := h.2.2; omega
  have hc := contains_false (nodup_mid e h.1)
  unfold m_is_zone_1_b1
  refine iff' (by rw [hc]; simp; omega) ?_
  refine bd (show sadd pre x = some (pre ++ [x]) from ?_) rfl
  unfold sadd
  rw [if_pos (by omega), hc]; rfl
theorem zn_g {z : List Int} (h : Zn z) : HarbG 12 z := ⟨lt_nodup h.1, h.2, lt_len (n := 12) h.1 h.2⟩
theorem report_ok {n : Nt} (h : Gd n) (c : Int) : m_l_report c n = some n := by
  obtain ⟨h1, h2, h3, h4, h5, h6, h7⟩ := h
  have hz := zn_g h5
  obtain ⟨t, et, pt⟩ := turned_ok (c := c / 2) hz.2.2
  have ht : HarbG 12 t := ⟨pt.nodup_iff.mpr hz.1, fun x hx => hz.2.1 x (pt.mem_iff.mp hx), by rw [pt.length_eq]; exact hz.2.2⟩
  have es : sortI t = n.2.2.1 := asc_extI (sortI_lt ht.1) h5.1 fun a => by rw [sortI_mem, pt.mem_iff]
  unfold m_l_report
  refine bd et ?_
  by_cases k : c % 2 = 1
  · refine ift (decide_eq_true k) (bd (x := n) ?_ rfl)
    unfold m_Report_init_1
    refine iff' (by simp; omega) (iff' (by simp; omega) (bd (zoneN_1 ht) (iff' rfl (iff' (by simp; omega) ?_))))
    refine bd (show m_ascending_1 t = some n.2.2.1 from ?_) rfl
    unfold m_ascending_1; rw [es]
  · refine iff' (decide_eq_false k) (bd (x := n) ?_ ?_)
    · unfold m_Report_init_0
      refine iff' (by simp; omega) (iff' (by simp; omega) (bd (zoneN_0 ht) (iff' rfl (iff' (by simp; omega) ?_))))
      refine bd (show m_ascending_0 t = some n.2.2.1 from ?_) rfl
      unfold m_ascending_0; rw [es]
    · have tl := ht.2.2
      exact bd (app_ok (xs := t) (lt_big (by omega))) (bd (app_ok (xs := t ++ [3]) (lt_big (by rw [List.length_append]; show t.length + 1 ≤ _; omega))) rfl)
theorem flag_ok (b : Bool) : m_l_flag b b = some true := by
  unfold m_l_flag
  cases b with
  | true => exact ift rfl rfl
  | false => exact iff' rfl rfl
theorem noint_0 {xs : List Int} : forN m_l_keeps_b1 ([] : List Int) xs = some [] := by
  refine forN_thru (fun _ => []) rfl fun pre x suf e => ?_
  unfold m_l_keeps_b1
  exact bd rfl (iff' rfl rfl)
theorem noint_1 {xs : List Int} : forN m_l_is_zone_b1 ([] : List Int) xs = some [] := by
  refine forN_thru (fun _ => []) rfl fun pre x suf e => ?_
  unfold m_l_is_zone_b1
  exact bd rfl (iff' rfl rfl)
theorem keeps_ok (n : Nt) : m_l_keeps n n = some true := by
  unfold m_l_keeps
  refine bd (x := false) (bd rfl (iff' rfl (bd rfl (iff' rfl (bd rfl rfl))))) (iff' rfl ?_)
  refine bd (x := false) (iff' rfl (bd noint_0 rfl)) (iff' rfl ?_)
  refine iff' (by simp) ?_
  refine bd (flag_ok _) (iff' rfl ?_)
  refine bd (rngO_ok (lo := 0) (hi := 12) (by decide) (by decide) (by decide) (by decide)) ?_
  refine bd (forR_all fun p _ => ?_) rfl
  unfold m_l_keeps_b2 m_Report_allows
  exact bd rfl (bd (flag_ok _) (iff' rfl rfl))
theorem all_keep_ok {N : List Nt} (h : N.length ≤ 1000) : m_l_all_keep N N = some true := by
  unfold m_l_all_keep
  refine iff' (by simp) ?_
  refine bd (rngO_ok (lo := 0) (hi := (N.length : Int)) (by decide) (by decide) (by omega) (by omega)) ?_
  refine bd (x := []) ?_ rfl
  refine forN_thru (fun _ => []) rfl fun pre x suf e => ?_
  have hx := mem_rng.mp (mem_mid e)
  obtain ⟨y, ey, _⟩ := at_some hx.1 hx.2
  unfold m_l_all_keep_b1
  exact bd ey (bd ey (bd (keeps_ok y) (iff' rfl rfl)))
theorem are_zones_ok {Z : List (List Int)} (h : Z.length ≤ 1000) : m_l_are_zones Z Z = some true := by
  unfold m_l_are_zones
  refine iff' (by simp) ?_
  refine bd (rngO_ok (lo := 0) (hi := (Z.length : Int)) (by decide) (by decide) (by omega) (by omega)) ?_
  refine bd (x := []) ?_ rfl
  refine forN_thru (fun _ => []) rfl fun pre x suf e => ?_
  have hx := mem_rng.mp (mem_mid e)
  obtain ⟨y, ey, _⟩ := at_some hx.1 hx.2
  unfold m_l_are_zones_b1
  refine bd ey (bd ey (bd (x := true) ?_ (iff' rfl rfl)))
  unfold m_l_is_zone
  exact bd (x := true) (ift rfl (bd noint_1 (ift rfl (congrArg some (by simp))))) rfl
def frZ (k : Nat) (Z : List (List Int)) : List (List Int) := (Z.take k).map (· ++ [99]) ++ Z.drop k
theorem frZ_len (k : Nat) (Z : List (List Int)) : (frZ k Z).length = Z.length := by
  unfold frZ; rw [List.length_append, List.length_map, ← List.length_append, List.take_append_drop]
theorem frZ_at {k : Nat} {Z : List (List Int)} (h : k < Z.length) : (frZ k Z)[k]? = some Z[k] := by
  unfold frZ
  rw [List.getElem?_append_right (by rw [List.length_map, List.length_take]; omega), List.length_map, List.length_take, Nat.min_eq_left (by omega), Nat.sub_self, List.getElem?_drop, Nat.add_zero, List.getElem?_eq_getElem h]
theorem frZ_succ {k : Nat} {Z : List (List Int)} (h : k < Z.length) : (frZ k Z).set k (Z[k] ++ [99]) = frZ (k + 1) Z := by
  unfold frZ
  have hl : ((Z.take k).map (· ++ [99])).length = k := by rw [List.length_map, List.length_take]; omega
  rw [List.set_append_right _ _ (by omega), hl, Nat.sub_self, List.drop_eq_getElem_cons h, List.set_cons_zero, List.take_succ_eq_append_getElem h, List.map_append, List.append_assoc]
  rfl
theorem all_fresh_ok {Z : List (List Int)} (h : Z.length ≤ 1000) (hz : ∀ z ∈ Z, z.length ≤ 1000) : ∃ Z', m_l_all_fresh Z Z = some (true, Z') ∧ Z'.length = Z.length := by
  unfold m_l_all_fresh
  refine ⟨frZ (rng 0 (Z.length : Int)).length Z, ?_, frZ_len _ _⟩
  refine bd (rngO_ok (lo := 0) (hi := (Z.length : Int)) (by decide) (by decide) (by omega) (by omega)) ?_
  refine bd (forR_thru (fun pre => frZ pre.length Z) (by show Z = frZ 0 Z; unfold frZ; simp) fun pre x suf e => ?_) rfl
  obtain ⟨g1, _, _, g4⟩ := rng_mid e
  have hx : x = ((pre.length : Nat) : Int) := by omega
  have hk : pre.length < Z.length := by omega
  have hxt : x.toNat = pre.length := by omega
  have ez : at_ Z x = some Z[pre.length] := by rw [hx]; exact at_nat (List.getElem?_eq_getElem hk)
  have ef : (frZ pre.length Z)[x.toNat]? = some Z[pre.length] := by rw [hxt]; exact frZ_at hk
  have ea : at_ (frZ pre.length Z) x = some Z[pre.length] := at_int (by omega) ef
  unfold m_l_all_fresh_b1
  refine bd ea (bd ez (iff' (by simp) (bd ea ?_)))
  have zl := hz Z[pre.length] (List.getElem_mem _)
  refine bd (appIn_ok (by omega) ef (by omega)) ?_
  rw [hxt, frZ_succ hk, List.length_append]; rfl
/-! ### corridors -/
def aboutL (ship h : Int) (N : List Nt) : List Nt := N.flatMap fun n => if (decide (n.1 = ship) && decide (n.2.1 = h)) = true then [n] else []
def badL (p : Int) (N : List Nt) : List Nt := N.flatMap fun n => if (!(decide ((n.2.2.1.contains p) = n.2.2.2.2))) = true then [n] else []
def zoneL (m : Int) (ship h : Int) (N : List Nt) : List Int := (rng 0 m).flatMap fun p => if decide (((badL p (aboutL ship h N)).length : Int) = 0) = true then [p] else []
theorem flat_two {α : Type} (f g : α → Bool) : ∀ xs : List α, (xs.flatMap fun x => if f x = true then [x] else []).flatMap (fun x => if g x = true then [x] else []) = xs.flatMap fun x => if (f x && g x) = true then [x] else []
  | [] => rfl
  | x :: xs => by
    rw [List.flatMap_cons, List.flatMap_append, flat_two f g xs, List.flatMap_cons]
    congr 1
    cases f x with
    | true => simp
    | false => simp
def shipL (ship : Int) (N : List Nt) : List Nt := N.flatMap fun n => if decide (n.1 = ship) = true then [n] else []
theorem ship_le (ship : Int) (N : List Nt) : (shipL ship N).length ≤ N.length := flat_le (fun n => by split <;> simp) N
theorem ship_about (ship h : Int) (N : List Nt) : ((shipL ship N).flatMap fun n => if decide (n.2.1 = h) = true then [n] else []) = aboutL ship h N := flat_two (fun n : Nt => decide (n.1 = ship)) (fun n : Nt => decide (n.2.1 = h)) N
theorem about_le (ship h : Int) (N : List Nt) : (aboutL ship h N).length ≤ N.length := flat_le (fun n => by split <;> simp) N
theorem bad_le (p : Int) (N : List Nt) : (badL p N).length ≤ N.length := flat_le (fun n => by split <;> simp) N
theorem zone_le {m ship h : Int} {N : List Nt} (h0 : 0 ≤ m) (h1 : m ≤ 12) : (zoneL m ship h N).length ≤ 12 := Nat.le_trans (flat_le (fun n => by split <;> simp) _) (by rw [rng_length]; omega)
theorem law_corridor {s : SeaT} (hd : DeepOk s.1) {N : List Nt} (hN : N.length ≤ 50) {ship cnt : Int} (c0 : 0 ≤ cnt) (c1 : cnt ≤ 30) : m_l_corridor s N ship cnt = some ((rng 0 cnt).map fun h => zoneL (s.1.length : Int) ship h N) := by
  have dl := hd.2.1
  unfold m_l_corridor
  refine bd (rngO_ok (lo := 0) (hi := cnt) (by decide) (by decide) (by omega) (by omega)) ?_
  refine bd (forN_thru (fun pre => pre.map fun h => zoneL (s.1.length : Int) ship h N) rfl fun pre x suf e => ?_) rfl
  have hp : pre.length ≤ 30 := by have := congrArg List.length e; rw [List.length_append, rng_length] at this; omega
  unfold m_l_corridor_b1
  have z1 := forN_flat (f := m_l_corridor_b2 ship x) (xs := N) (acc := ([] : List Nt)) (fun n => if (decide (n.1 = ship) && decide (n.2.1 = x)) = true then [n] else []) (fun n => by split <;> simp) (le_big (by show 0 + _ ≤ _; omega)) (fun acc n _ hb => by
    unfold m_l_corridor_b2
    by_cases k : (decide (n.1 = ship) && decide (n.2.1 = x)) = true
    · rw [if_pos k, if_pos k, app_ok hb]; rfl
    · rw [if_neg k, if_neg k, List.append_nil])
  rw [List.nil_append] at z1
  refine bd z1 ?_
  refine bd (rngO_ok (lo := 0) (hi := (s.1.length : Int)) (by decide) (by decide) (by omega) (by omega)) ?_
  have al := about_le ship x N
  have z2 := forN_flat (f := m_l_corridor_b3 (aboutL ship x N)) (xs := rng 0 (s.1.length : Int)) (acc := ([] : List Int)) (fun p => if decide (((badL p (aboutL ship x N)).length : Int) = 0) = true then [p] else []) (fun n => by split <;> simp) (le_big (by rw [rng_length]; show 0 + _ ≤ _; omega)) (fun acc p _ hb => by
    unfold m_l_corridor_b3
    have z3 := forN_flat (f := m_l_corridor_b4 p) (xs := aboutL ship x N) (acc := ([] : List Nt)) (fun n => if (!(decide ((n.2.2.1.contains p) = n.2.2.2.2))) = true then [n] else []) (fun n => by split <;> simp) (le_big (by show 0 + _ ≤ _; omega)) (fun acc n _ hb => by
      unfold m_l_corridor_b4
      by_cases k : (!(decide ((n.2.2.1.contains p) = n.2.2.2.2))) = true
      · rw [if_pos k, if_pos k, app_ok hb]; rfl
      · rw [if_neg k, if_neg k, List.append_nil])
    rw [List.nil_append] at z3
    by_cases k : decide (((badL p (aboutL ship x N)).length : Int) = 0) = true
    · rw [if_pos k]; exact bd (bd z3 (ift k (bd (app_ok hb) rfl))) rfl
    · rw [if_neg k, List.append_nil]; exact bd (bd z3 (iff' (bf k) rfl)) rfl)
  rw [List.nil_append] at z2
  refine bd z2 (bd (app_ok (xs := pre.map fun h => zoneL (s.1.length : Int) ship h N) (lt_big (by rw [List.length_map]; omega))) ?_)
  rw [List.map_append]; rfl
theorem allowed_is {ch : ChT} (h0 : 0 ≤ ch.1) (h1 : ch.1 ≤ 12) {A : List Nt} (hA : A.length ≤ 50) : m_allowed_by_all ch A = some ((rng 0 ch.1).flatMap fun p => if decide (((badL p A).length : Int) = 0) = true then [p] else []) := by
  unfold m_allowed_by_all
  refine bd (rngO_ok (lo := 0) (hi := ch.1) (by decide) (by decide) (by omega) (by omega)) ?_
  have z2 := forN_flat (f := m_allowed_by_all_b1 A) (xs := rng 0 ch.1) (acc := ([] : List Int)) (fun p => if decide (((badL p A).length : Int) = 0) = true then [p] else []) (fun n => by split <;> simp) (le_big (by rw [rng_length]; show 0 + _ ≤ _; omega)) (fun acc p _ hb => by
    unfold m_allowed_by_all_b1
    have z3 := forN_flat (f := m_allowed_by_all_b2 p) (xs := A) (acc := ([] : List Nt)) (fun n => if (!(decide ((n.2.2.1.contains p) = n.2.2.2.2))) = true then [n] else []) (fun n => by split <;> simp) (le_big (by show 0 + _ ≤ _; omega)) (fun acc n _ hb => by
      unfold m_allowed_by_all_b2 m_Report_allows
      refine bd rfl ?_
      by_cases k : (!(decide ((n.2.2.1.contains p) = n.2.2.2.2))) = true
      · rw [if_pos k, if_pos k, app_ok hb]; rfl
      · rw [if_neg k, if_neg k, List.append_nil])
    rw [List.nil_append] at z3
    by_cases k : decide (((badL p A).length : Int) = 0) = true
    · rw [if_pos k]; exact bd (bd z3 (ift k (bd (app_ok hb) rfl))) rfl
    · rw [if_neg k, List.append_nil]; exact bd (bd z3 (iff' (bf k) rfl)) rfl)
  rw [List.nil_append] at z2
  exact bd z2 rfl

theorem prog_corridor_0 {ch : ChT} (h0 : 0 ≤ ch.1) (h1 : ch.1 ≤ 12) {N : List Nt} (hN : N.length ≤ 50) {ship hz : Int} (c0 : 0 ≤ hz) (c1 : hz ≤ 29) : m_corridor_of_0 ch hz N ship = some ((rng 0 (hz + 1)).map fun h => zoneL ch.1 ship h N) := by
  unfold m_corridor_of_0
  have z1 := forN_flat (f := m_corridor_of_0_b1 ship) (xs := N) (acc := ([] : List Nt)) (fun n => if decide (n.1 = ship) = true then [n] else []) (fun n => by split <;> simp) (le_big (by show 0 + _ ≤ _; omega)) (fun acc n _ hb => by
    unfold m_corridor_of_0_b1
    by_cases k : decide (n.1 = ship) = true
    · rw [if_pos k, if_pos k, app_ok hb]; rfl
    · rw [if_neg k, if_neg k, List.append_nil])
  rw [List.nil_append] at z1
  refine bd (x := shipL ship N) z1 ?_
  refine bd (rngO_ok (lo := 0) (hi := hz + 1) (by decide) (by decide) (by omega) (by omega)) ?_
  refine bd (forN_thru (fun pre => pre.map fun h => zoneL ch.1 ship h N) rfl fun pre x suf e => ?_) rfl
  have hp : pre.length ≤ 30 := by have := congrArg List.length e; rw [List.length_append, rng_length] at this; omega
  have al := ship_le ship N
  unfold m_corridor_of_0_b2
  have z2 := forN_flat (f := m_corridor_of_0_b3 x) (xs := shipL ship N) (acc := ([] : List Nt)) (fun n => if decide (n.2.1 = x) = true then [n] else []) (fun n => by split <;> simp) (le_big (by show 0 + _ ≤ _; omega)) (fun acc n _ hb => by
    unfold m_corridor_of_0_b3
    by_cases k : decide (n.2.1 = x) = true
    · rw [if_pos k, if_pos k, app_ok hb]; rfl
    · rw [if_neg k, if_neg k, List.append_nil])
  rw [List.nil_append, ship_about] at z2
  refine bd z2 ?_
  have bl := about_le ship x N
  refine bd (allowed_is h0 h1 (A := aboutL ship x N) (by omega)) ?_
  refine bd (app_ok (xs := pre.map fun h => zoneL ch.1 ship h N) (lt_big (by rw [List.length_map]; omega))) ?_
  rw [List.map_append]; rfl
theorem hold_ok_0 {s : SeaT} (hs : SeaOk s) {N : List Nt} (hN : N.length ≤ 50) {hz : Int} (c0 : 0 ≤ hz) (c1 : hz ≤ 29) : m_l_corridors_hold_0 s (chOf s.1 s.2.1 s.2.2.1 s.2.2.2) hz N N = some true := by
  have dl := hs.1.2.1
  unfold m_l_corridors_hold_0
  refine bd (rngO_ok (lo := 0) (hi := 4) (by decide) (by decide) (by decide) (by decide)) ?_
  refine bd (forR_all fun ship _ => ?_) rfl
  unfold m_l_corridors_hold_0_b1
  refine bd (law_corridor hs.1 hN (ship := ship) (cnt := hz + 1) (by omega) (by omega)) ?_
  have ep := prog_corridor_0 (ch := chOf s.1 s.2.1 s.2.2.1 s.2.2.2) (by show 0 ≤ (s.1.length : Int); omega) (by show (s.1.length : Int) ≤ 12; omega) hN (ship := ship) c0 c1
  have ep2 : m_corridor_of_0 (chOf s.1 s.2.1 s.2.2.1 s.2.2.2) hz N ship = some ((rng 0 (hz + 1)).map fun h => zoneL (s.1.length : Int) ship h N) := ep
  refine bd ep2 ?_
  have zl : ((rng 0 (hz + 1)).map fun h => zoneL (s.1.length : Int) ship h N).length ≤ 30 := by rw [List.length_map, rng_length]; omega
  obtain ⟨Z', ez, lz⟩ := all_fresh_ok (Z := (rng 0 (hz + 1)).map fun h => zoneL (s.1.length : Int) ship h N) (by omega) (fun z hz => by
    obtain ⟨h, _, rfl⟩ := List.mem_map.mp hz
    exact Nat.le_trans (zone_le (by omega) (by omega)) (by decide))
  refine bd (x := (false, Z')) (bd (are_zones_ok (by omega)) (iff' rfl (bd ez rfl))) (iff' rfl ?_)
  refine bd (app_ok (xs := Z') (lt_big (by omega))) ?_
  exact bd ep2 (bd (are_zones_ok (by omega)) (iff' rfl rfl))


theorem prog_corridor_1 {ch : ChT} (h0 : 0 ≤ ch.1) (h1 : ch.1 ≤ 12) {N : List Nt} (hN : N.length ≤ 50) {ship hz : Int} (c0 : 0 ≤ hz) (c1 : hz ≤ 29) : m_corridor_of_1 ch hz N ship = some ((rng 0 (hz + 1)).map fun h => zoneL ch.1 ship h N) := by
  unfold m_corridor_of_1
  have z1 := forN_flat (f := m_corridor_of_1_b1 ship) (xs := N) (acc := ([] : List Nt)) (fun n => if decide (n.1 = ship) = true then [n] else []) (fun n => by split <;> simp) (le_big (by show 0 + _ ≤ _; omega)) (fun acc n _ hb => by
    unfold m_corridor_of_1_b1
    by_cases k : decide (n.1 = ship) = true
    · rw [if_pos k, if_pos k, app_ok hb]; rfl
    · rw [if_neg k, if_neg k, List.append_nil])
  rw [List.nil_append] at z1
  refine bd (x := shipL ship N) z1 ?_
  refine bd (rngO_ok (lo := 0) (hi := hz + 1) (by decide) (by decide) (by omega) (by omega)) ?_
  refine bd (forN_thru (fun pre => pre.map fun h => zoneL ch.1 ship h N) rfl fun pre x suf e => ?_) rfl
  have hp : pre.length ≤ 30 := by have := congrArg List.length e; rw [List.length_append, rng_length] at this; omega
  have al := ship_le ship N
  unfold m_corridor_of_1_b2
  have z2 := forN_flat (f := m_corridor_of_1_b3 x) (xs := shipL ship N) (acc := ([] : List Nt)) (fun n => if decide (n.2.1 = x) = true then [n] else []) (fun n => by split <;> simp) (le_big (by show 0 + _ ≤ _; omega)) (fun acc n _ hb => by
    unfold m_corridor_of_1_b3
    by_cases k : decide (n.2.1 = x) = true
    · rw [if_pos k, if_pos k, app_ok hb]; rfl
    · rw [if_neg k, if_neg k, List.append_nil])
  rw [List.nil_append, ship_about] at z2
  refine bd z2 ?_
  have bl := about_le ship x N
  refine bd (allowed_is h0 h1 (A := aboutL ship x N) (by omega)) ?_
  refine bd (app_ok (xs := pre.map fun h => zoneL ch.1 ship h N) (lt_big (by rw [List.length_map]; omega))) ?_
  rw [List.map_append]; rfl
theorem hold_ok_1 {s : SeaT} (hs : SeaOk s) {N : List Nt} (hN : N.length ≤ 50) {hz : Int} (c0 : 0 ≤ hz) (c1 : hz ≤ 29) : m_l_corridors_hold_1 s (chOf s.1 s.2.1 s.2.2.1 s.2.2.2) hz N N = some true := by
  have dl := hs.1.2.1
  unfold m_l_corridors_hold_1
  refine bd (rngO_ok (lo := 0) (hi := 4) (by decide) (by decide) (by decide) (by decide)) ?_
  refine bd (forR_all fun ship _ => ?_) rfl
  unfold m_l_corridors_hold_1_b1
  refine bd (law_corridor hs.1 hN (ship := ship) (cnt := hz + 1) (by omega) (by omega)) ?_
  have ep := prog_corridor_1 (ch := chOf s.1 s.2.1 s.2.2.1 s.2.2.2) (by show 0 ≤ (s.1.length : Int); omega) (by show (s.1.length : Int) ≤ 12; omega) hN (ship := ship) c0 c1
  have ep2 : m_corridor_of_1 (chOf s.1 s.2.1 s.2.2.1 s.2.2.2) hz N ship = some ((rng 0 (hz + 1)).map fun h => zoneL (s.1.length : Int) ship h N) := ep
  refine bd ep2 ?_
  have zl : ((rng 0 (hz + 1)).map fun h => zoneL (s.1.length : Int) ship h N).length ≤ 30 := by rw [List.length_map, rng_length]; omega
  obtain ⟨Z', ez, lz⟩ := all_fresh_ok (Z := (rng 0 (hz + 1)).map fun h => zoneL (s.1.length : Int) ship h N) (by omega) (fun z hz => by
    obtain ⟨h, _, rfl⟩ := List.mem_map.mp hz
    exact Nat.le_trans (zone_le (by omega) (by omega)) (by decide))
  refine bd (x := (false, Z')) (bd (are_zones_ok (by omega)) (iff' rfl (bd ez rfl))) (iff' rfl ?_)
  refine bd (app_ok (xs := Z') (lt_big (by omega))) ?_
  exact bd ep2 (bd (are_zones_ok (by omega)) (iff' rfl rfl))

theorem wide_deep : DeepOk [(0 : Int), (3 : Int), (0 : Int), (1 : Int), (0 : Int), (2 : Int), (0 : Int), (5 : Int), (0 : Int), (1 : Int), (0 : Int), (9 : Int)] := ⟨by decide, by decide, by decide⟩
theorem wide_lanes : LanesU (([(0 : Int), (3 : Int), (0 : Int), (1 : Int), (0 : Int), (2 : Int), (0 : Int), (5 : Int), (0 : Int), (1 : Int), (0 : Int), (9 : Int)] : List Int).length : Int) [((2 : Int), (7 : Int))] := ⟨by decide, by decide, by decide⟩
theorem law_true (s : List Int) (_ : s.length ≤ 63) : m_law s = some true := by
  unfold m_law
  obtain ⟨h0, e0, hh0⟩ := hand_ok s 0 (by decide)
  refine bd e0 ?_
  obtain ⟨a, h1, e1, a0, a1, hh1⟩ := pick_ok hh0 (n := 8) (by decide) (by decide)
  refine bd e1 ?_
  obtain ⟨k, e2, m2⟩ := at_mem (xs := [(6 : Int), (6 : Int), (6 : Int), (6 : Int), (6 : Int), (6 : Int), (6 : Int), (12 : Int)]) a0 a1
  refine bd e2 ?_
  obtain ⟨w1, h2, e3, hw1, hh2, _⟩ := sea_ok hh1 (n := k) (by simp at m2; omega) (by simp at m2; omega)
  refine bd e3 ?_
  obtain ⟨h3, e4, hh3⟩ := hand_ok s 1 (by decide)
  refine bd e4 ?_
  obtain ⟨b, h4, e5, b0, b1, hh4⟩ := pick_ok hh3 (n := 8) (by decide) (by decide)
  refine bd e5 ?_
  obtain ⟨k2, e6, m6⟩ := at_mem (xs := [(9 : Int), (9 : Int), (9 : Int), (25 : Int), (9 : Int), (9 : Int), (9 : Int), (9 : Int)]) b0 b1
  refine bd e6 ?_
  have hk2 : 1 ≤ k2 ∧ k2 ≤ 25 := by simp at m6; omega
  obtain ⟨hz, h5, e7, hz0, hz1, hh5⟩ := pick_ok hh4 (n := k2) (by omega) (by omega)
  refine bd e7 ?_
  obtain ⟨ho, h6, e8, ho0, ho1, hh6⟩ := pick_ok hh5 (n := 9) (by decide) (by decide)
  refine bd e8 ?_
  obtain ⟨h7, e9, hh7⟩ := hand_ok s 2 (by decide)
  refine bd e9 ?_
  obtain ⟨c, h8, e10, c0, c1, hh8⟩ := pick_ok hh7 (n := 8) (by decide) (by decide)
  refine bd e10 ?_
  obtain ⟨k3, e11, m11⟩ := at_mem (xs := [(13 : Int), (13 : Int), (13 : Int), (13 : Int), (13 : Int), (41 : Int), (13 : Int), (13 : Int)]) c0 c1
  refine bd e11 ?_
  have hk3 : 1 ≤ k3 ∧ k3 ≤ 41 := by simp at m11; omega
  obtain ⟨cn, h9, e12, cn0, cn1, hh9⟩ := pick_ok hh8 (n := k3) (by omega) (by omega)
  refine bd e12 ?_
  obtain ⟨nu, h10, e13, nu0, nu1, hh10⟩ := pick_ok hh9 (n := 4) (by decide) (by decide)
  refine bd e13 ?_
  obtain ⟨N, h11, e14, hN, hNl, hh11⟩ := wild_ok hh10 (cnt := cn) (last := hz) (num := nu) cn0 (by omega) hz0 (by omega) nu0 (by omega)
  refine bd e14 ?_
  obtain ⟨h12, e15, hh12⟩ := hand_ok s 3 (by decide)
  refine bd e15 ?_
  have hand : ∃ h', forN m_law_b1 (([] : List Nt), h12) N = some (N, h') ∧ Hd h' := by
    obtain ⟨⟨M, h'⟩, em, eM, hM⟩ := forN_ind (f := m_law_b1) (xs := N) (s0 := (([] : List Nt), h12)) (fun pre t => t.1 = pre ∧ Hd t.2) ⟨rfl, hh12⟩ (fun pre x suf t e ht => by
      obtain ⟨t1, t2⟩ := ht
      have hp : pre.length ≤ 50 := by have := congrArg List.length e; rw [List.length_append] at this; omega
      obtain ⟨z, g, ez, z0, z1, hg⟩ := pick_ok t2 (n := 48) (by decide) (by decide)
      unfold m_law_b1
      exact ⟨_, bd ez (bd (report_ok (hN x (mem_mid e)) z) (bd (app_ok (xs := t.1) (lt_big (by rw [t1]; omega))) rfl)), by show t.1 ++ [x] = _; rw [t1], hg⟩)
    simp only at eM hM
    subst eM
    exact ⟨h', em, hM⟩
  obtain ⟨h13, e16, hh13⟩ := hand
  refine bd e16 ?_
  refine bd (chart_ok hw1) ?_
  refine bd (x := false) (bd (all_keep_ok (N := N) (by omega)) (iff' rfl (bd (hold_ok_0 hw1 hNl hz0 (by omega)) rfl))) (iff' rfl ?_)
  have hW : SeaOk ([(0 : Int), (3 : Int), (0 : Int), (1 : Int), (0 : Int), (2 : Int), (0 : Int), (5 : Int), (0 : Int), (1 : Int), (0 : Int), (9 : Int)], [((2 : Int), (7 : Int))], w1.2.2.1, ([] : (List Int))) :=
    ⟨wide_deep, wide_lanes, hw1.2.2.1, ⟨.nil, fun x hx => absurd hx List.not_mem_nil⟩⟩
  refine bd (chart_ok hW) ?_
  refine bd (hold_ok_1 hW hNl ho0 (by omega)) (iff' rfl ?_)
  have j1 : ∃ M : List Nt, (if (decide ((0 : Int) < (N.length : Int))) = true then ((m_l_pick h13 (N.length : Int)).bind fun q240 => (guardO (decide (N.length ≤ big))).bind fun z243 => (popAt N q240.1).bind fun x244 => (guardO (decide (N.length ≤ big))).bind fun z251 => (popAt N q240.1).bind fun x252 => some (x244.2, x252.2)) else (some (N, N)) : Option (List Nt × List Nt)) = some (M, M) ∧ M.length ≤ 50 := by
    by_cases k : (0 : Int) < (N.length : Int)
    · obtain ⟨z, g, ez, z0, z1, hg⟩ := pick_ok hh13 (n := (N.length : Int)) (by omega) (by omega)
      obtain ⟨y, ey⟩ := popAt_ok (xs := N) z0 z1
      have hgd := guard_ok (decide_eq_true (le_big (n := N.length) (by omega)))
      refine ⟨N.eraseIdx z.toNat, ift (decide_eq_true k) (bd ez (bd hgd (bd ey (bd hgd (bd ey rfl))))), ?_⟩
      have := List.length_eraseIdx_le N z.toNat
      omega
    · exact ⟨N, iff' (decide_eq_false k) rfl, hNl⟩
  obtain ⟨M, e17, hM⟩ := j1
  refine bd e17 ?_
  exact bd (bd (hold_ok_0 hw1 hM hz0 (by omega)) (ift rfl (bd (all_keep_ok (N := M) (by omega)) rfl))) rfl


end Mi
namespace G
open PySem PySem.Spec PyProof.Rows L2
/-! ### what never changes, and how a heap changes -/
/-- the attribute that an __init__ sets last: an instance with it is whole and stays as it is -/
def lastF : List Str := ["joined", "fuel", "reach", "inside", "hops", "letters", "hours"]
def done (fs : List (Str × V)) : Bool := fs.any fun p => lastF.any fun q => decide (q = p.1)
def Froz : HO → Prop
  | .tup _ => True
  | .ins _ _ fs => done fs = true
  | .own _ => True
  | .frz _ _ => True
  | _ => False
structure Chg (M : List Addr) (H H' : Hp) : Prop where
  keep : ∀ b o, H b = some o → (b ∉ M ∨ Froz o) → H' b = some o
  dom : ∀ b, H' b = none → H b = none
theorem Chg.refl {M : List Addr} (H : Hp) : Chg M H H := ⟨fun _ _ h _ => h, fun _ h => h⟩
theorem Chg.trans {M : List Addr} {H H1 H2 : Hp} (a : Chg M H H1) (b : Chg M H1 H2) : Chg M H H2 :=
  ⟨fun x o h d => b.keep x o (a.keep x o h d) d, fun x h => a.dom x (b.dom x h)⟩
theorem Chg.mono {M N : List Addr} {H H' : Hp} (a : Chg M H H') (s : ∀ x ∈ M, x ∈ N) : Chg N H H' :=
  ⟨fun b o h d => a.keep b o h (d.imp (fun z y => z (s b y)) id), a.dom⟩
theorem Chg.none {M : List Addr} {H H' : Hp} (a : Chg [] H H') : Chg M H H' := a.mono (fun x h => nomatch h)
theorem Chg.new {M : List Addr} {H : Hp} {p : Addr} {o : HO} (np : H p = .none) : Chg M H (upd H p o) :=
  ⟨fun b u h _ => by rw [upd_ne (ne_of_none h np)]; exact h, fun b h => by
    by_cases e : b = p
    · subst e; exact np
    · rw [upd_ne e] at h; exact h⟩
theorem Chg.wr {H : Hp} {p : Addr} {o u : HO} (hp : H p = some u) (nf : ¬ Froz u) : Chg [p] H (upd H p o) :=
  ⟨fun b w h d => by
    have e : b ≠ p := by
      intro e; subst e
      rw [hp] at h; cases h
      rcases d with d | d
      · exact d (List.mem_singleton.mpr rfl)
      · exact nf d
    rw [upd_ne e]; exact h, fun b h => by
    by_cases e : b = p
    · subst e; rw [upd_same] at h; cases h
    · rw [upd_ne e] at h; exact h⟩
/-- what was made behind H0 may change -/
theorem Chg.loc {M N : List Addr} {H0 H H' : Hp} (a : Chg M H0 H) (b : Chg N H H') (fr : ∀ x ∈ N, H0 x = .none) : Chg M H0 H' :=
  ⟨fun x o h d => b.keep x o (a.keep x o h d) (.inl (fun z => by rw [fr x z] at h; cases h)), fun x h => a.dom x (b.dom x h)⟩
/-- the part N of M, and what was made behind H0, may change -/
theorem Chg.join {M N : List Addr} {H0 H H' : Hp} (a : Chg M H0 H) (b : Chg N H H') (fr : ∀ x ∈ N, x ∈ M ∨ H0 x = .none) : Chg M H0 H' :=
  ⟨fun x o h d => b.keep x o (a.keep x o h d) (by
    rcases d with d | d
    · refine .inl (fun z => ?_)
      rcases fr x z with y | y
      · exact d y
      · rw [y] at h; cases h
    · exact .inr d), fun x h => a.dom x (b.dom x h)⟩
theorem Chg.free {M : List Addr} {H H' : Hp} (a : Chg M H H') {p : Addr} (np : H' p = .none) : H p = .none := a.dom p np
/-! ### kinds of data -/
structure Ty (α : Type) where
  rep : PySem.W.Frag → Hp → List Addr → V → α → Prop
  keep : ∀ {K : PySem.W.Frag} {H H' : Hp} {F : List Addr} {v : V} {d : α}, rep K H F v d → (∀ b o, H b = some o → (b ∈ F ∨ Froz o) → H' b = some o) → rep K H' F v d
  dom : ∀ {K : PySem.W.Frag} {H : Hp} {F : List Addr} {v : V} {d : α}, rep K H F v d → ∀ b ∈ F, ∃ o, H b = some o ∧ ¬ Froz o
/-- a and b have nothing in common -/
def Dj (F G : List Addr) : Prop := ∀ a ∈ F, a ∉ G
theorem Dj.symm {F G : List Addr} (d : Dj F G) : Dj G F := fun a h z => d a z h
theorem Dj.nil {F : List Addr} : Dj [] F := fun a h => nomatch h
theorem Dj.nilR {F : List Addr} : Dj F [] := fun a h z => nomatch z
section
variable {α β : Type} {τ : Ty α} {υ : Ty β} {K : PySem.W.Frag} {H H' : Hp} {F G M : List Addr} {v u : V} {d : α} {p : Addr}
theorem Ty.chg (r : τ.rep K H F v d) (c : Chg M H H') (dj : Dj F M) : τ.rep K H' F v d :=
  τ.keep r fun b o h z => c.keep b o h (z.imp (fun y => dj b y) id)
theorem Ty.ex (r : τ.rep K H F v d) (c : Chg [] H H') : τ.rep K H' F v d := Ty.chg r c Dj.nilR
theorem Ty.fz (r : τ.rep K H [] v d) (c : Chg M H H') : τ.rep K H' [] v d := Ty.chg r c Dj.nil
theorem Ty.nin (r : τ.rep K H F v d) (np : H p = none) : Dj F [p] := fun a h z => by
  rw [List.mem_singleton] at z; subst z
  obtain ⟨o, e, _⟩ := τ.dom r a h
  rw [np] at e; cases e
theorem Ty.fresh (r : τ.rep K H F v d) (np : ∀ a ∈ G, H a = none) : Dj F G := fun a h z => by
  obtain ⟨o, e, _⟩ := τ.dom r a h
  rw [np a z] at e; cases e
end
theorem one_fresh {H : Hp} {p : Addr} (np : H p = none) : ∀ a ∈ [p], H a = none := fun a h => by
  rw [List.mem_singleton] at h; subst h; exact np
/-! ### flat data -/
def yInt : Ty Int := ⟨fun _ _ F v d => F = [] ∧ v = .int d, fun h _ => h, fun h b m => by rw [h.1] at m; cases m⟩
def yBool : Ty Bool := ⟨fun _ _ F v d => F = [] ∧ v = .bl d, fun h _ => h, fun h b m => by rw [h.1] at m; cases m⟩
def toS (l : List Nat) : Str := ⟨l.toArray⟩
def yStr : Ty (List Nat) := ⟨fun _ _ F v d => F = [] ∧ v = .str (toS d), fun h _ => h, fun h b m => by rw [h.1] at m; cases m⟩
def yNon : Ty Unit := ⟨fun _ _ F v _ => F = [] ∧ v = .non, fun h _ => h, fun h b m => by rw [h.1] at m; cases m⟩
theorem yInt_i {K : PySem.W.Frag} {H : Hp} {i : Int} : yInt.rep K H [] (.int i) i := ⟨rfl, rfl⟩
theorem yBool_i {K : PySem.W.Frag} {H : Hp} {i : Bool} : yBool.rep K H [] (.bl i) i := ⟨rfl, rfl⟩
theorem yStr_i {K : PySem.W.Frag} {H : Hp} {i : List Nat} : yStr.rep K H [] (.str (toS i)) i := ⟨rfl, rfl⟩
theorem yNon_i {K : PySem.W.Frag} {H : Hp} : yNon.rep K H [] .non () := ⟨rfl, rfl⟩
/-- None or data -/
def yOpt {α : Type} (τ : Ty α) : Ty (Option α) where
  rep K H F v d := match d with
    | none => F = [] ∧ v = .non
    | some x => v ≠ .non ∧ τ.rep K H F v x
  keep {K H H' F v d} h k := by
    cases d with
    | none => exact h
    | some x => exact ⟨h.1, τ.keep h.2 k⟩
  dom {K H F v d} h b m := by
    cases d with
    | none => rw [h.1] at m; cases m
    | some x => exact τ.dom h.2 b m
/-- a list whose items never change -/
def yLst {α : Type} (τ : Ty α) : Ty (List α) where
  rep K H F v xs := ∃ a vs, v = .ref a ∧ F = [a] ∧ H a = some (.lst vs) ∧ Paired (fun u x => τ.rep K H [] u x) vs xs
  keep {K H H' F v xs} h k := by
    obtain ⟨a, vs, e, f, g, r⟩ := h
    subst f
    exact ⟨a, vs, e, rfl, k a _ g (.inl (List.mem_singleton.mpr rfl)), Paired.mapP r fun u x q => τ.keep q fun b o hb z => k b o hb (z.elim (fun y => nomatch y) .inr)⟩
  dom {K H F v xs} h b m := by
    obtain ⟨a, vs, e, f, g, r⟩ := h
    subst f
    rw [List.mem_singleton] at m; subst m
    exact ⟨_, g, fun z => z⟩
theorem SqT.keeps {K : PySem.W.Frag} {H H' : Hp} {a : Addr} {vs : List V} (s : SqT K H a vs) (k : ∀ b o, H b = some o → Froz o → H' b = some o) : SqT K H' a vs := by
  rcases s with (s | ⟨o, s⟩) | s
  · exact .inl (.inl (k _ _ s trivial))
  · exact .inl (.inr ⟨o, k _ _ s trivial⟩)
  · exact .inr s
/-- the items of a tuple -/
structure Tys (α : Type) where
  rep : PySem.W.Frag → Hp → List Addr → List V → α → Prop
  keep : ∀ {K : PySem.W.Frag} {H H' : Hp} {F : List Addr} {v : List V} {d : α}, rep K H F v d → (∀ b o, H b = some o → (b ∈ F ∨ Froz o) → H' b = some o) → rep K H' F v d
  dom : ∀ {K : PySem.W.Frag} {H : Hp} {F : List Addr} {v : List V} {d : α}, rep K H F v d → ∀ b ∈ F, ∃ o, H b = some o ∧ ¬ Froz o
def sOne {α : Type} (τ : Ty α) : Tys α where
  rep K H F vs x := ∃ v, vs = [v] ∧ τ.rep K H F v x
  keep h k := by obtain ⟨v, e, r⟩ := h; exact ⟨v, e, τ.keep r k⟩
  dom h b m := by obtain ⟨v, e, r⟩ := h; exact τ.dom r b m
def sCons {α β : Type} (τ : Ty α) (ts : Tys β) : Tys (α × β) where
  rep K H F vs x := ∃ v ws F1 F2, vs = v :: ws ∧ F = F1 ++ F2 ∧ τ.rep K H F1 v x.1 ∧ ts.rep K H F2 ws x.2
  keep {K H H' F v d} h k := by
    obtain ⟨v, ws, F1, F2, e, f, r, q⟩ := h
    subst f
    exact ⟨v, ws, F1, F2, e, rfl, τ.keep r fun b o hb z => k b o hb (z.imp (fun y => List.mem_append_left _ y) id), ts.keep q fun b o hb z => k b o hb (z.imp (fun y => List.mem_append_right _ y) id)⟩
  dom {K H F v d} h b m := by
    obtain ⟨v, ws, F1, F2, e, f, r, q⟩ := h
    subst f
    rcases List.mem_append.mp m with m | m
    · exact τ.dom r b m
    · exact ts.dom q b m
def yTup {α : Type} (ts : Tys α) : Ty α where
  rep K H F v d := ∃ a vs, v = .ref a ∧ SqT K H a vs ∧ ts.rep K H F vs d
  keep h k := by
    obtain ⟨a, vs, e, s, r⟩ := h
    exact ⟨a, vs, e, SqT.keeps s fun b o hb z => k b o hb (.inr z), ts.keep r k⟩
  dom h b m := by obtain ⟨a, vs, e, s, r⟩ := h; exact ts.dom r b m
/-- a tuple of any number of things of one kind that never change -/
def yTupL {α : Type} (τ : Ty α) : Ty (List α) where
  rep K H F v xs := ∃ a vs, v = .ref a ∧ F = [] ∧ SqT K H a vs ∧ Paired (fun u x => τ.rep K H [] u x) vs xs
  keep {K H H' F v xs} h k := by
    obtain ⟨a, vs, e, f, g, r⟩ := h
    exact ⟨a, vs, e, f, SqT.keeps g fun b o hb z => k b o hb (.inr z), Paired.mapP r fun u x q => τ.keep q fun b o hb z => k b o hb (z.elim (fun y => nomatch y) .inr)⟩
  dom {K H F v xs} h b m := by
    obtain ⟨a, vs, e, f, g, r⟩ := h
    rw [f] at m; cases m
/-- the script -/
def yScr : Ty (List Int) where
  rep K H F v xs := F = [] ∧ ∃ a, v = .ref a ∧ ∀ H', (∀ b o, H b = some o → Froz o → H' b = some o) → SqL K H' a (xs.map V.int)
  keep {K H H' F v xs} h k := by
    obtain ⟨f, a, e, g⟩ := h
    exact ⟨f, a, e, fun H2 k2 => g H2 fun b o hb z => k2 b o (k b o hb (.inr z)) z⟩
  dom {K H F v xs} h b m := by
    rw [h.1] at m; cases m
theorem yScr_of {K : PySem.W.Frag} {H : Hp} {a : Addr} {ns : List Int} (o : Only H) (s : SqL K H a (ns.map V.int)) : yScr.rep K H [] (.ref a) ns := by
  refine ⟨rfl, a, rfl, fun H' k => ?_⟩
  rcases s with (s | ⟨ob, s⟩) | s
  · rcases o a with z | ⟨_, _, z⟩
    · rw [z] at s; cases s
    · rw [z] at s; cases s
  · exact .inl (.inr ⟨ob, k _ _ s trivial⟩)
  · exact .inr s
end G

namespace G
open PySem PySem.Spec PyProof.Rows L2
theorem at_eq {α : Type} (xs : List α) (i : Int) : L2.atI xs i = Mi.at_ xs i := rfl
theorem ixN_eq (n : Nat) (i : Int) : L2.ixN n i = Mi.ixN n i := rfl
theorem line_big : Mi.big ≤ sizeLine := by rw [sizeLine_eq]; decide
section paired
variable {α β γ : Type} {R : α → β → Prop}
theorem pr_len {xs : List α} {ys : List β} (r : Paired R xs ys) : xs.length = ys.length := Paired.length r
theorem pr_get : ∀ {xs : List α} {ys : List β} {j : Nat} {y : β}, Paired R xs ys → ys[j]? = some y → ∃ x, xs[j]? = some x ∧ R x y
  | _, _, _, _, .nil, e => by simp at e
  | _, _, 0, _, .cons r _, e => by simp at e; subst e; exact ⟨_, rfl, r⟩
  | _, _, j + 1, y, .cons _ t, e => by
    obtain ⟨u, h1, h2⟩ := pr_get (j := j) (y := y) t (by simpa using e)
    exact ⟨u, by simpa using h1, h2⟩
theorem pr_getL : ∀ {xs : List α} {ys : List β} {j : Nat} {x : α}, Paired R xs ys → xs[j]? = some x → ∃ y, ys[j]? = some y ∧ R x y
  | _, _, _, _, .nil, e => by simp at e
  | _, _, 0, _, .cons r _, e => by simp at e; subst e; exact ⟨_, rfl, r⟩
  | _, _, j + 1, y, .cons _ t, e => by
    obtain ⟨u, h1, h2⟩ := pr_getL (j := j) (x := y) t (by simpa using e)
    exact ⟨u, by simpa using h1, h2⟩
theorem pr_set {x : α} {y : β} (r : R x y) : ∀ {xs : List α} {ys : List β} (i : Nat), Paired R xs ys → Paired R (xs.set i x) (ys.set i y)
  | _, _, _, .nil => .nil
  | _, _, 0, .cons _ t => .cons r t
  | _, _, i + 1, .cons q t => .cons q (pr_set r i t)
theorem pr_app : ∀ {xs zs : List α} {ys ws : List β}, Paired R xs ys → Paired R zs ws → Paired R (xs ++ zs) (ys ++ ws)
  | _, _, _, _, .nil, s => s
  | _, _, _, _, .cons r t, s => .cons r (pr_app t s)
theorem pr_take : ∀ {xs : List α} {ys : List β} (n : Nat), Paired R xs ys → Paired R (xs.take n) (ys.take n)
  | _, _, 0, _ => .nil
  | _, _, _ + 1, .nil => .nil
  | _, _, n + 1, .cons r t => .cons r (pr_take n t)
theorem pr_drop : ∀ {xs : List α} {ys : List β} (n : Nat), Paired R xs ys → Paired R (xs.drop n) (ys.drop n)
  | _, _, 0, r => r
  | _, _, _ + 1, .nil => .nil
  | _, _, n + 1, .cons _ t => pr_drop n t
theorem pr_at {xs : List α} {ys : List β} {i : Int} {y : β} (r : Paired R xs ys) (h : Mi.at_ ys i = some y) : ∃ x, L2.atI xs i = some x ∧ R x y := by
  rw [at_eq]
  unfold Mi.at_ at h ⊢
  rw [pr_len r]
  obtain ⟨j, e, h⟩ := Mi.bnd h
  obtain ⟨x, e2, q⟩ := pr_get r h
  exact ⟨x, by rw [e]; exact e2, q⟩
theorem pr_map (f : β → α) (h : ∀ b, R (f b) b) : ∀ ys : List β, Paired R (ys.map f) ys
  | [] => .nil
  | y :: ys => .cons (h y) (pr_map f h ys)
theorem pr_of_map (f : β → α) (h : ∀ a b, R a b → a = f b) : ∀ {xs : List α} {ys : List β}, Paired R xs ys → xs = ys.map f
  | _, _, .nil => rfl
  | _, _, .cons r t => by rw [h _ _ r, pr_of_map f h t]; rfl
end paired
theorem ints_of {K : PySem.W.Frag} {H : Hp} {vs : List V} {ns : List Int} (r : Paired (fun u x => yInt.rep K H [] u x) vs ns) : vs = ns.map V.int := pr_of_map V.int (fun _ _ q => q.2) r
theorem ints_mk {K : PySem.W.Frag} {H : Hp} (ns : List Int) : Paired (fun u x => yInt.rep K H [] u x) (ns.map V.int) ns := pr_map V.int (fun _ => ⟨rfl, rfl⟩) ns
/-! ### values without a change of the heap -/
section vals
variable {K : PySem.W.Frag} {σ : L2.St} {H : Hp} {F : List Addr} {ta tb te : TE} {v u x y : V} {i j : Int} {t : TT} {b c : Bool} {α β : Type} {τ : Ty α}
theorem val_I0 {g : Int → Int → V} (ha : Val ta σ H (.int i)) (hb : Val tb σ H (.int j)) : Val (tOp (rI0 g) ta tb) σ H (g i j) := val_op ha hb fun Q q => ⟨i, j, rfl, rfl, q⟩
theorem val_I {C : Int → Int → Prop} {g : Int → Int → V} (ha : Val ta σ H (.int i)) (hb : Val tb σ H (.int j)) (hc : C i j) : Val (tOp (rI C g) ta tb) σ H (g i j) := val_op ha hb fun Q q => ⟨i, j, rfl, rfl, hc, q⟩
theorem val_U {g : Int → V} (ha : Val ta σ H (.int i)) : Val (tUn (rU g) ta) σ H (g i) := fun Q q => ha _ ⟨i, rfl, q⟩
theorem dI {i j : Int} : decide (V.int i = V.int j) = decide (i = j) := by
  by_cases e : i = j
  · subst e; simp
  · rw [decide_eq_false e, decide_eq_false (fun q => e (V.int.inj q))]
theorem dB {i j : Bool} : decide (V.bl i = V.bl j) = decide (i = j) := by
  by_cases e : i = j
  · subst e; simp
  · rw [decide_eq_false e, decide_eq_false (fun q => e (V.bl.inj q))]
theorem dS {i j : Str} : decide (V.str i = V.str j) = decide (i = j) := by
  by_cases e : i = j
  · subst e; simp
  · rw [decide_eq_false e, decide_eq_false (fun q => e (V.str.inj q))]
theorem val_eqI (ha : Val ta σ H (.int i)) (hb : Val tb σ H (.int j)) : Val (tOp rEq ta tb) σ H (.bl (decide (i = j))) := val_op ha hb fun Q q => ⟨rfl, by rw [dI]; exact q⟩
theorem val_neI (ha : Val ta σ H (.int i)) (hb : Val tb σ H (.int j)) : Val (tOp rNe ta tb) σ H (.bl (!decide (i = j))) := val_op ha hb fun Q q => ⟨rfl, by rw [dI]; exact q⟩
theorem val_eqB (ha : Val ta σ H (.bl b)) (hb : Val tb σ H (.bl c)) : Val (tOp rEq ta tb) σ H (.bl (decide (b = c))) := val_op ha hb fun Q q => ⟨rfl, by rw [dB]; exact q⟩
theorem val_neB (ha : Val ta σ H (.bl b)) (hb : Val tb σ H (.bl c)) : Val (tOp rNe ta tb) σ H (.bl (!decide (b = c))) := val_op ha hb fun Q q => ⟨rfl, by rw [dB]; exact q⟩
theorem val_is {w : V} (h : Val te σ H v) (e : v = w) : Val te σ H w := e ▸ h
theorem ans_is (h : Ans t σ H b) (e : b = c) : Ans t σ H c := e ▸ h
theorem mulC {i j r : Int} (h : Mi.mul i j = some r) : CMul i j ∧ i * j = r := by
  unfold Mi.mul at h
  split at h
  · exact ⟨by assumption, Option.some.inj h⟩
  · cases h
theorem modC {i j r : Int} (h : Mi.mod i j = some r) : 0 < j ∧ i % j = r := by
  unfold Mi.mod at h
  split at h
  · exact ⟨by assumption, Option.some.inj h⟩
  · cases h
theorem divC {i j r : Int} (h : Mi.fdiv i j = some r) : CDivW i j ∧ i / j = r := by
  unfold Mi.fdiv at h
  split at h
  · rename_i hc
    refine ⟨wide_div (b := 200) hc.1 ?_ (by decide) (by decide), Option.some.inj h⟩
    omega
  · cases h
theorem val_mul {r : Int} (ha : Val ta σ H (.int i)) (hb : Val tb σ H (.int j)) (h : Mi.mul i j = some r) : Val (tOp (rI CMul fun i j => .int (i * j)) ta tb) σ H (.int r) := val_is (val_I ha hb (mulC h).1) (by rw [(mulC h).2])
theorem val_mod {r : Int} (ha : Val ta σ H (.int i)) (hb : Val tb σ H (.int j)) (h : Mi.mod i j = some r) : Val (tOp (rI (fun _ j => 0 < j) fun i j => .int (i % j)) ta tb) σ H (.int r) := val_is (val_I ha hb (modC h).1) (by rw [(modC h).2])
theorem val_fdiv {r : Int} (ha : Val ta σ H (.int i)) (hb : Val tb σ H (.int j)) (h : Mi.fdiv i j = some r) : Val (tOp (rI CDivW fun i j => .int (i / j)) ta tb) σ H (.int r) := val_is (val_I ha hb (divC h).1) (by rw [(divC h).2])
theorem ans_t (h : Val te σ H (.bl b)) : Ans (tTest te) σ H b := fun Q q => h _ ⟨b, rfl, q⟩
/-- int(n) -/
def rInt1 : List V → Hp → VK → Prop := fun xs H Q => (∃ i, xs = [.int i] ∧ Q (.int i) H) ∨ ∃ k, xs = [.bl k] ∧ Q (.int (if k then 1 else 0)) H
theorem cl_int {X : Cx} : CallR X (.type "int") rInt1 := call_int1
theorem val_int (ha : Val ta σ H (.int i)) : Val (tCB rInt1 (tCons ta tNil)) σ H (.int i) := fun Q q => ha _ (.inl ⟨i, rfl, q⟩)
def rMax2 : List V → Hp → VK → Prop := fun xs H Q => ∃ i j, xs = [.int i, .int j] ∧ Q (.int (if j > i then j else i)) H
def rMin2 : List V → Hp → VK → Prop := fun xs H Q => ∃ i j, xs = [.int i, .int j] ∧ Q (.int (if j < i then j else i)) H
theorem cl_max2 {X : Cx} (hc : X.calm = true) : CallR X (.builtin "max") rMax2 := call_max2 hc
theorem cl_min2 {X : Cx} (hc : X.calm = true) : CallR X (.builtin "min") rMin2 := call_min2 hc
theorem val_max2 (ha : Val ta σ H (.int i)) (hb : Val tb σ H (.int j)) : Val (tCB rMax2 (tCons ta (tCons tb tNil))) σ H (.int (max i j)) := fun Q q => ha _ (hb _ ⟨i, j, rfl, by
  have e : (if j > i then j else i) = max i j := by split <;> omega
  rw [e]; exact q⟩)
theorem val_min2 (ha : Val ta σ H (.int i)) (hb : Val tb σ H (.int j)) : Val (tCB rMin2 (tCons ta (tCons tb tNil))) σ H (.int (min i j)) := fun Q q => ha _ (hb _ ⟨i, j, rfl, by
  have e : (if j < i then j else i) = min i j := by split <;> omega
  rw [e]; exact q⟩)
/-- len of a list or tuple -/
def rLenQ (K : PySem.W.Frag) : List V → Hp → VK → Prop := fun xs H Q => ∃ p ys, xs = [.ref p] ∧ (SqL K H p ys ∨ SqT K H p ys) ∧ Q (.int ys.length) H
theorem cl_len {X : Cx} {K : PySem.W.Frag} (e : X.K = K := by rfl) : CallR X (.builtin "len") (rLenQ K) := by subst e; exact call_len_seq
theorem lst_sq {xs : List α} (r : (yLst τ).rep K H F v xs) : ∃ a vs, v = .ref a ∧ SqL K H a vs ∧ Paired (fun u x => τ.rep K H [] u x) vs xs := by
  obtain ⟨a, vs, e, f, g, q⟩ := r
  exact ⟨a, vs, e, .inl (.inl g), q⟩
theorem tupl_sq {xs : List α} (r : (yTupL τ).rep K H F v xs) : ∃ a vs, v = .ref a ∧ SqT K H a vs ∧ Paired (fun u x => τ.rep K H [] u x) vs xs := by
  obtain ⟨a, vs, e, f, g, q⟩ := r
  exact ⟨a, vs, e, g, q⟩
theorem scr_sq {xs : List Int} (r : yScr.rep K H F v xs) : ∃ a vs, v = .ref a ∧ SqL K H a vs ∧ Paired (fun u x => yInt.rep K H [] u x) vs xs := by
  obtain ⟨f, a, e, g⟩ := r
  exact ⟨a, _, e, g H fun _ _ h _ => h, ints_mk xs⟩
theorem val_lenL {xs : List α} (r : (yLst τ).rep K H F v xs) (ha : Val ta σ H v) : Val (tCB (rLenQ K) (tCons ta tNil)) σ H (.int (xs.length : Int)) := by
  obtain ⟨a, vs, e, s, q⟩ := lst_sq r
  subst e
  exact fun Q k => ha _ ⟨a, vs, rfl, .inl s, by rw [pr_len q]; exact k⟩
theorem val_lenT {xs : List α} (r : (yTupL τ).rep K H F v xs) (ha : Val ta σ H v) : Val (tCB (rLenQ K) (tCons ta tNil)) σ H (.int (xs.length : Int)) := by
  obtain ⟨a, vs, e, s, q⟩ := tupl_sq r
  subst e
  exact fun Q k => ha _ ⟨a, vs, rfl, .inr s, by rw [pr_len q]; exact k⟩
theorem val_lenS {xs : List Int} (r : yScr.rep K H F v xs) (ha : Val ta σ H v) : Val (tCB (rLenQ K) (tCons ta tNil)) σ H (.int (xs.length : Int)) := by
  obtain ⟨a, vs, e, s, q⟩ := scr_sq r
  subst e
  exact fun Q k => ha _ ⟨a, vs, rfl, .inl s, by rw [pr_len q]; exact k⟩
/-- items -/
theorem ix_l {X : Cx} {K : PySem.W.Frag} (e : X.K = K := by rfl) : IxR X (rIxL K) := by subst e; exact ix_list
theorem ix_t {X : Cx} {K : PySem.W.Frag} (e : X.K = K := by rfl) : IxR X (rIxT K) := by subst e; exact ix_tup
/-- the item's own value, by its data -/
theorem itm_L {xs : List α} {x : α} (r : (yLst τ).rep K H F v xs) (h : Mi.at_ xs i = some x) :
    ∃ u, τ.rep K H [] u x ∧ ∀ {σ : L2.St} {ta tb : TE}, Val ta σ H v → Val tb σ H (.int i) → Val (tOp (rIxL K) ta tb) σ H u := by
  obtain ⟨a, vs, e, s, q⟩ := lst_sq r
  subst e
  obtain ⟨u, e, ru⟩ := pr_at q h
  exact ⟨u, ru, fun ha hb => val_op ha hb fun Q k => ⟨a, vs, i, u, rfl, rfl, s, e, k⟩⟩
theorem itm_T {xs : List α} {x : α} (r : (yTupL τ).rep K H F v xs) (h : Mi.at_ xs i = some x) :
    ∃ u, τ.rep K H [] u x ∧ ∀ {σ : L2.St} {ta tb : TE}, Val ta σ H v → Val tb σ H (.int i) → Val (tOp (rIxT K) ta tb) σ H u := by
  obtain ⟨a, vs, e, s, q⟩ := tupl_sq r
  subst e
  obtain ⟨u, e, ru⟩ := pr_at q h
  exact ⟨u, ru, fun ha hb => val_op ha hb fun Q k => ⟨a, vs, i, u, rfl, rfl, s, e, k⟩⟩
theorem itm_S {xs : List Int} {x : Int} (r : yScr.rep K H F v xs) (h : Mi.at_ xs i = some x) {σ : L2.St} {ta tb : TE} (ha : Val ta σ H v) (hb : Val tb σ H (.int i)) : Val (tOp (rIxL K) ta tb) σ H (.int x) := by
  obtain ⟨a, vs, e, s, q⟩ := scr_sq r
  subst e
  obtain ⟨u, e, ru⟩ := pr_at q h
  obtain ⟨_, rfl⟩ := ru
  exact val_op ha hb fun Q k => ⟨a, vs, i, _, rfl, rfl, s, e, k⟩
/-- ints in lists -/
theorem itm_LI {xs : List Int} {x : Int} (r : (yLst yInt).rep K H F v xs) (h : Mi.at_ xs i = some x) {σ : L2.St} {ta tb : TE} (ha : Val ta σ H v) (hb : Val tb σ H (.int i)) : Val (tOp (rIxL K) ta tb) σ H (.int x) := by
  obtain ⟨u, ⟨_, rfl⟩, k⟩ := itm_L r h
  exact k ha hb
theorem itm_TI {xs : List Int} {x : Int} (r : (yTupL yInt).rep K H F v xs) (h : Mi.at_ xs i = some x) {σ : L2.St} {ta tb : TE} (ha : Val ta σ H v) (hb : Val tb σ H (.int i)) : Val (tOp (rIxT K) ta tb) σ H (.int x) := by
  obtain ⟨u, ⟨_, rfl⟩, k⟩ := itm_T r h
  exact k ha hb
/-! ### isinstance -/
theorem cl_isi {X : Cx} {K : PySem.W.Frag} (e : X.K = K := by rfl) : CallR X (.builtin "isinstance") (rIsi K) := by subst e; exact call_isi
theorem val_isi {n m : String} {b : Bool} (ha : Val ta σ H v) (ht : TyX K H v (.type n)) (h : kitB n m = some b) : Val (tCB (rIsi K) (tCons ta (tCons (tC (.ty m)) tNil))) σ H (.bl b) := fun Q q =>
  ha _ ⟨v, .ty m, .type n, .type m, b, rfl, .ty m, ht, kit_ty h, q⟩
theorem ty_int : TyX K H (.int i) (.type "int") := .base (.int i)
theorem ty_bl : TyX K H (.bl b) (.type "bool") := .base (.bl b)
theorem ty_str {s : Str} : TyX K H (.str s) (.type "str") := .base (.str s)
theorem ty_non : TyX K H .non (.type "NoneType") := .base .non
theorem ty_lst {xs : List α} (r : (yLst τ).rep K H F v xs) : TyX K H v (.type "list") := by
  obtain ⟨a, vs, rfl, f, g, q⟩ := r
  exact .base (.lst g)
theorem ty_sqt {a : Addr} {vs : List V} (s : SqT K H a vs) : TyX K H (.ref a) (.type "tuple") := by
  rcases s with (s | ⟨o, s⟩) | ⟨o, its, n, e, c, _⟩
  · exact .base (.tup s)
  · exact .fTuple s
  · exact .kTuple e c
theorem ty_tupl {xs : List α} (r : (yTupL τ).rep K H F v xs) : TyX K H v (.type "tuple") := by
  obtain ⟨a, vs, rfl, s, q⟩ := tupl_sq r
  exact ty_sqt s
theorem ty_tup {ts : Tys α} {d : α} (r : (yTup ts).rep K H F v d) : TyX K H v (.type "tuple") := by
  obtain ⟨a, vs, rfl, s, q⟩ := r
  exact ty_sqt s
end vals
/-! ### going on behind an expression -/
section cps
variable {K : PySem.W.Frag} {σ σ' : L2.St} {H : Hp} {F : List Addr} {ta tb te : TE} {v u x y : V} {i j : Int} {t : TT} {b c : Bool} {α β : Type} {τ : Ty α} {Q : VK} {D : Ends} {t1 t2 : TS}
theorem c_val (h : Val te σ H v) (k : Q v H) : te σ H Q := h Q k
theorem c_ans {Q : Bool → Hp → Prop} (h : Ans t σ H b) (k : Q b H) : t σ H Q := h Q k
theorem c_if {A B : Prop} (h1 : b = true → A) (h2 : b = false → B) : if b = true then A else B := by
  cases b with
  | true => exact iteT (h1 rfl)
  | false => exact iteF (h2 rfl)
theorem s_if (h : Ans t σ H b) (h1 : b = true → t1 D σ H) (h2 : b = false → t2 D σ H) : tIfS t t1 t2 D σ H := h _ (c_if h1 h2)
/-- x = e -/
theorem s_set {i : Nat} (h : Val te σ H v) (e : σ.set i (some v) = σ') (k : D.nx σ' H) : tAsg te (gName i) D σ H := h _ (by show D.nx (σ.set i (some v)) H; rw [e]; exact k)
theorem s_setI {i : Nat} {n m : Int} (h : Val te σ H (.int n)) (en : n = m) (e : σ.set i (some (.int m)) = σ') (k : D.nx σ' H) : tAsg te (gName i) D σ H := s_set (v := .int m) (en ▸ h) e k
theorem s_seq (h : t1 { D with nx := t2 D } σ H) : tSeq t1 t2 D σ H := h
/-- a join: R is what holds where the ways come together -/
theorem s_join {R : L2.St → Hp → Prop} (w : ∀ nx : L2.St → Hp → Prop, (∀ σ' H', R σ' H' → nx σ' H') → t1 { D with nx := nx } σ H) (k : ∀ σ' H', R σ' H' → t2 D σ' H') : tSeq t1 t2 D σ H := w _ k
theorem g_name {i : Nat} {Q : L2.St → Hp → Prop} (e : σ.set i (some v) = σ') (k : Q σ' H) : gName i v σ H Q := by show Q (σ.set i (some v)) H; rw [e]; exact k
theorem g_nameI {i : Nat} {n m : Int} {Q : L2.St → Hp → Prop} (en : n = m) (e : σ.set i (some (.int m)) = σ') (k : Q σ' H) : gName i (.int n) σ H Q := g_name (v := .int n) (by rw [en]; exact e) k
/-- a list, a tuple is made -/
theorem sz {n : Nat} (h : n ≤ Mi.big) : n ≤ sizeLine := Nat.le_trans h line_big
theorem c_lst {ts : TA} (h : ts σ H fun xs H1 => xs.length ≤ Mi.big ∧ ∀ p, H1 p = none → Q (.ref p) (upd H1 p (.lst xs))) (mono : ∀ Q Q' : List V → Hp → Prop, (∀ xs H1, Q xs H1 → Q' xs H1) → ts σ H Q → ts σ H Q') : L2.tLst ts σ H Q := mono _ _ (fun xs H1 z => ⟨sz z.1, z.2⟩) h
/-- values of arguments -/
def VaA (t : TA) (σ : L2.St) (H : Hp) (vs : List V) : Prop := ∀ Q : List V → Hp → Prop, Q vs H → t σ H Q
theorem va_nil : VaA tNil σ H [] := fun Q q => q
theorem va_cons {tr : TA} {vs : List V} (h : Val ta σ H v) (r : VaA tr σ H vs) : VaA (tCons ta tr) σ H (v :: vs) := fun Q q => h _ (r _ q)
theorem n_lst {ts : TA} {vs : List V} {xs : List α} (h : VaA ts σ H vs) (z : vs.length ≤ Mi.big) (r : Paired (fun u x => τ.rep K H [] u x) vs xs)
    (k : ∀ p H', H p = none → Chg [] H H' → (yLst τ).rep K H' [p] (.ref p) xs → Q (.ref p) H') : L2.tLst ts σ H Q := h _ ⟨sz z, fun p np => k p _ np (Chg.new np)
      ⟨p, vs, rfl, rfl, upd_same, Paired.mapP r fun u x q => Ty.ex q (Chg.new np)⟩⟩
theorem n_tup {ts : TA} {ty : Tys α} {vs : List V} {d : α} {F : List Addr} (h : VaA ts σ H vs) (z : vs.length ≤ Mi.big) (r : ty.rep K H F vs d)
    (k : ∀ p H', H p = none → Chg [] H H' → (yTup ty).rep K H' F (.ref p) d → Q (.ref p) H') : L2.tTup ts σ H Q := h _ ⟨sz z, fun p np => k p _ np (Chg.new np)
      ⟨p, vs, rfl, .inl (.inl upd_same), ty.keep r fun b o e _ => by rw [upd_ne (ne_of_none e np)]; exact e⟩⟩
/-- xs.append(e) -/
theorem m_app {xs ys : List α} {d : α} (r : (yLst τ).rep K H F v xs) (ru : τ.rep K H [] u d) (hm : Mi.app xs d = some ys) (k : ∀ H', Chg F H H' → (yLst τ).rep K H' F v ys → Q .non H') : rAppend v [u] H Q := by
  obtain ⟨p, vs, rfl, rfl, g, q⟩ := r
  unfold Mi.app at hm
  split at hm
  · rename_i hz
    cases hm
    have c : Chg [p] H (upd H p (.lst (vs ++ [u]))) := Chg.wr g (fun z => z)
    refine ⟨p, vs, u, rfl, rfl, g, Nat.lt_of_lt_of_le (by rw [pr_len q]; exact hz) line_big, k _ c ⟨p, _, rfl, rfl, upd_same, ?_⟩⟩
    exact pr_app (Paired.mapP q fun _ _ z => Ty.fz z c) (.cons (Ty.fz ru c) .nil)
  · cases hm
/-- xs[i] = e -/
theorem m_set {xs ys : List α} {d : α} {Q : Hp → Prop} (r : (yLst τ).rep K H F v xs) (ru : τ.rep K H [] u d) (hm : Mi.setAt xs i d = some ys) (k : ∀ H', Chg F H H' → (yLst τ).rep K H' F v ys → Q H') : rSetL v (.int i) u H Q := by
  obtain ⟨p, vs, rfl, rfl, g, q⟩ := r
  unfold Mi.setAt at hm
  obtain ⟨j, e, hm⟩ := Mi.bnd hm
  cases hm
  have c : Chg [p] H (upd H p (.lst (vs.set j u))) := Chg.wr g (fun z => z)
  refine ⟨p, vs, i, j, rfl, rfl, g, by rw [pr_len q]; exact e, k _ c ⟨p, _, rfl, rfl, upd_same, ?_⟩⟩
  exact pr_set (Ty.fz ru c) j (Paired.mapP q fun _ _ z => Ty.fz z c)
end cps
end G

namespace G
open PySem PySem.Spec PyProof.Rows L2
/-- the built-in names that the program leaves as they are -/
structure Bi (mg : Str → Option Value) : Prop where
  len : mg "len" = none
  range : mg "range" = none
  int : mg "int" = none
  bool : mg "bool" = none
  isinstance : mg "isinstance" = none
  max : mg "max" = none
  min : mg "min" = none
  list : mg "list" = none
  tuple : mg "tuple" = none
  sorted : mg "sorted" = none
  set : mg "set" = none
  enumerate : mg "enumerate" = none
  zip : mg "zip" = none
  reversed : mg "reversed" = none
  sum : mg "sum" = none
  any : mg "any" = none
  all : mg "all" = none
  str : mg "str" = none
/-- a def of the text stands under its name -/
structure Dfn (K : PySem.W.Frag) (mg : Str → Option Value) (x : Str) (st : Stmt) : Prop where
  ex : ∃ f fd, Fun K x x st f fd ∧ mg x = some (.ref f)
/-- a def may be called by its name and keeps its promise -/
structure Cal (P : Program) (w : World) (K : PySem.W.Frag) (mg : Str → Option Value) (x : Str) (ps : List Str) (k : Nat) (sp : Sp) : Prop where
  ex : ∃ f fd, mg x = some (.ref f) ∧ PySem.W.keepIn K (.ref f) = true ∧ (∀ (s : Shared) (us : List Value), us.length = ps.length → BindsTo s fd ⟨us, []⟩ (ps.zip us)) ∧ ∀ base : Heap, FnOk P w K mg base CX0 k f fd ps sp
theorem pe_cc {X : Cx} {x : Str} {ps : List Str} {j k : Nat} {sp : Sp} {p pos : Pos} {e : Expr} {es : List Expr} {t : TA} (C : Cal X.prog X.w X.K X.mg x ps j sp) (hr : Room k X.A) (ha : PA X (e :: es) t) (hj : j ≤ k := by decide) (hg : Gl X x := by rfl)
    (hd : (x == ("__debug__" : Str)) = false := by decide) (he : starEach (e :: es) X.env = (false, eval e X.env) :: starEach es X.env := by rfl)
    (hpl : (backTo pos (starEach es X.env)).any (·.1) = false := by rfl) :
    PE X (.Call (.Name x p) (e :: es) [] pos) (tCall sp [] E0 t) := by
  obtain ⟨f, fd, g, kp, b, F⟩ := C.ex
  exact pe_call (F X.base) (hr.mono hj) hg g kp (fun s us _ hl => by rw [List.append_nil] at hl ⊢; exact b s us hl) .nil pass0 ha hd he hpl
theorem bindsF {K : PySem.W.Frag} {x qual : Str} {st : Stmt} {f : Addr} {fd : FuncData} {ps : List Str} (F : Fun K x qual st f fd)
    (h : ∀ (kV doc pm : Value) (an : Option Addr) (cdv ct : Value) (us : List Value), us.length = ps.length → bindArgs (PySem.W.fnOf x qual (defArgs st) (defBody st) (defScope st) .none kV doc pm an cdv ct) ⟨us, []⟩ = pure (ps.zip us)) (s : Shared) (us : List Value) (hl : us.length = ps.length) : BindsTo s fd ⟨us, []⟩ (ps.zip us) := by
  obtain ⟨oc, od, kV, doc, pm, an, cdv, ct, osl, rfl, lk, hcd⟩ := F.ex
  exact .of_eq (h kV doc pm an cdv ct us hl)
end G

namespace G
open PySem PySem.Spec PyProof.Rows L2
section
variable {K : PySem.W.Frag} {σ σ' : L2.St} {H : Hp} {F : List Addr} {ta tb te : TE} {v u x y : V} {i j : Int} {t tu : TT} {b c a : Bool} {α β : Type} {τ : Ty α} {Q : VK} {D : Ends} {t1 t2 : TS}
theorem val_add (ha : Val ta σ H (.int i)) (hb : Val tb σ H (.int j)) : Val (tOp (rI0 fun i j => .int (i + j)) ta tb) σ H (.int (i + j)) := val_I0 ha hb
theorem val_sub (ha : Val ta σ H (.int i)) (hb : Val tb σ H (.int j)) : Val (tOp (rI0 fun i j => .int (i - j)) ta tb) σ H (.int (i - j)) := val_I0 ha hb
theorem val_lt (ha : Val ta σ H (.int i)) (hb : Val tb σ H (.int j)) : Val (tOp (rI0 fun i j => .bl (decide (i < j))) ta tb) σ H (.bl (decide (i < j))) := val_I0 (g := fun i j => .bl (decide (i < j))) ha hb
theorem val_le (ha : Val ta σ H (.int i)) (hb : Val tb σ H (.int j)) : Val (tOp (rI0 fun i j => .bl (decide (i ≤ j))) ta tb) σ H (.bl (decide (i ≤ j))) := val_I0 (g := fun i j => .bl (decide (i ≤ j))) ha hb
theorem val_gt (ha : Val ta σ H (.int i)) (hb : Val tb σ H (.int j)) : Val (tOp (rI0 fun i j => .bl (decide (j < i))) ta tb) σ H (.bl (decide (j < i))) := val_I0 (g := fun i j => .bl (decide (j < i))) ha hb
theorem val_ge (ha : Val ta σ H (.int i)) (hb : Val tb σ H (.int j)) : Val (tOp (rI0 fun i j => .bl (decide (j ≤ i))) ta tb) σ H (.bl (decide (j ≤ i))) := val_I0 (g := fun i j => .bl (decide (j ≤ i))) ha hb
theorem val_neg (ha : Val ta σ H (.int i)) : Val (tUn (rU fun i => .int (-i)) ta) σ H (.int (-i)) := val_U (g := fun i => .int (-i)) ha
theorem val_mulL (ha : Val ta σ H (.int i)) (hb : Val tb σ H (.int j)) (h : -(2 ^ 64) < i ∧ i < 2 ^ 64) : Val (tOp (rI CMul fun i j => .int (i * j)) ta tb) σ H (.int (i * j)) := val_I (g := fun i j => .int (i * j)) ha hb (.inl h)
theorem val_mulR (ha : Val ta σ H (.int i)) (hb : Val tb σ H (.int j)) (h : -(2 ^ 64) < j ∧ j < 2 ^ 64) : Val (tOp (rI CMul fun i j => .int (i * j)) ta tb) σ H (.int (i * j)) := val_I (g := fun i j => .int (i * j)) ha hb (.inr h)
theorem val_modc (ha : Val ta σ H (.int i)) (hb : Val tb σ H (.int j)) (h : 0 < j) : Val (tOp (rI (fun _ j => 0 < j) fun i j => .int (i % j)) ta tb) σ H (.int (i % j)) := val_I (g := fun i j => .int (i % j)) ha hb h
theorem val_divc (ha : Val ta σ H (.int i)) (hb : Val tb σ H (.int j)) (h : CDiv i j) : Val (tOp (rI CDiv fun i j => .int (i / j)) ta tb) σ H (.int (i / j)) := val_I (g := fun i j => .int (i / j)) ha hb h
theorem val_pow {n : Nat} (ha : Val ta σ H (.int i)) (hb : Val tb σ H (.int j)) (e : j = (n : Int)) (hn : n ≤ 1000000) (h : i.natAbs < 2 ^ 64) : Val (tOp (rI CPow fun i j => .int (i ^ j.toNat)) ta tb) σ H (.int (i ^ n)) := by
  subst e
  exact val_I (g := fun i j => .int (i ^ j.toNat)) ha hb ⟨by omega, by omega, h⟩
theorem val_shl {n : Nat} (ha : Val ta σ H (.int i)) (hb : Val tb σ H (.int j)) (h : CPow i j) : Val (tOp (rI CPow fun i j => .int (i * 2 ^ j.toNat)) ta tb) σ H (.int (i * 2 ^ j.toNat)) := val_I (g := fun i j => .int (i * 2 ^ j.toNat)) ha hb h
theorem val_shr (ha : Val ta σ H (.int i)) (hb : Val tb σ H (.int j)) (h : 0 ≤ j) : Val (tOp (rI (fun _ j => 0 ≤ j) fun i j => .int (i / 2 ^ j.toNat)) ta tb) σ H (.int (i / 2 ^ j.toNat)) := val_I (g := fun i j => .int (i / 2 ^ j.toNat)) ha hb h
theorem ans_B (h : Val te σ H (.bl b)) : Ans (tB te) σ H b := ans_val h
theorem ans_N (h : Ans t σ H b) : Ans (tNot t) σ H (!b) := ans_not h
theorem ans_andB (h1 : Ans t σ H a) (h2 : a = true → Ans tu σ H b) : Ans (tAnd t tu) σ H (a && b) := by
  cases a with
  | true => exact ans_and h1 (h2 rfl)
  | false => exact ans_and0 h1
theorem ans_orB (h1 : Ans t σ H a) (h2 : a = false → Ans tu σ H b) : Ans (tOr t tu) σ H (a || b) := by
  cases a with
  | true => exact ans_or1 h1
  | false => exact ans_or h1 (h2 rfl)
theorem ans_andO {m : Option Bool} (h1 : Ans t σ H a) (hc : (if a = true then m else some false) = some c) (h2 : m = some c → Ans tu σ H c) : Ans (tAnd t tu) σ H c := by
  cases a with
  | true => exact ans_and h1 (h2 hc)
  | false => cases hc; exact ans_and0 h1
theorem ans_orO {m : Option Bool} (h1 : Ans t σ H a) (hc : (if a = true then some true else m) = some c) (h2 : m = some c → Ans tu σ H c) : Ans (tOr t tu) σ H c := by
  cases a with
  | true => cases hc; exact ans_or1 h1
  | false => exact ans_or h1 (h2 hc)
theorem val_notV (h : Val ta σ H (.bl a)) : Val (tNotV ta) σ H (.bl (!a)) := fun Q q => h _ ⟨a, rfl, q⟩
theorem val_andV (h1 : Val ta σ H (.bl a)) (h2 : a = true → Val tb σ H (.bl b)) : Val (tAndV ta tb) σ H (.bl (a && b)) := fun Q q => h1 _ ⟨a, rfl, by
  cases a with
  | true => exact iteT (h2 rfl Q q)
  | false => exact iteF q⟩
theorem val_orV (h1 : Val ta σ H (.bl a)) (h2 : a = false → Val tb σ H (.bl b)) : Val (tOrV ta tb) σ H (.bl (a || b)) := fun Q q => h1 _ ⟨a, rfl, by
  cases a with
  | true => exact iteT q
  | false => exact iteF (h2 rfl Q q)⟩
theorem val_andVO {m : Option Bool} (h1 : Val ta σ H (.bl a)) (hc : (if a = true then m else some false) = some c) (h2 : m = some c → Val tb σ H (.bl c)) : Val (tAndV ta tb) σ H (.bl c) := fun Q q => h1 _ ⟨a, rfl, by
  cases a with
  | true => exact iteT (h2 hc Q q)
  | false => cases hc; exact iteF q⟩
theorem val_orVO {m : Option Bool} (h1 : Val ta σ H (.bl a)) (hc : (if a = true then some true else m) = some c) (h2 : m = some c → Val tb σ H (.bl c)) : Val (tOrV ta tb) σ H (.bl c) := fun Q q => h1 _ ⟨a, rfl, by
  cases a with
  | true => cases hc; exact iteT q
  | false => exact iteF (h2 hc Q q)⟩
/-! ### readings taken apart -/
theorem w_op {r : R2} (h : ta σ H fun x H1 => tb σ H1 fun y H2 => r x y H2 Q) : tOp r ta tb σ H Q := h
theorem w_un {r : V → Hp → VK → Prop} (h : ta σ H fun x H1 => r x H1 Q) : tUn r ta σ H Q := h
theorem w_cb {r : List V → Hp → VK → Prop} {ts : TA} (h : ts σ H fun vs H1 => r vs H1 Q) : tCB r ts σ H Q := h
theorem w_call {sp : Sp} {dvs : List V} {E : XK} {ts : TA} (h : ts σ H fun vs H1 => sp (vs ++ dvs) H1 Q E) : tCall sp dvs E ts σ H Q := h
theorem w_cons {tr : TA} {Q : List V → Hp → Prop} (h : ta σ H fun x H1 => tr σ H1 fun xs H2 => Q (x :: xs) H2) : tCons ta tr σ H Q := h
theorem w_nil {Q : List V → Hp → Prop} (h : Q [] H) : tNil σ H Q := h
theorem w_args {ts : TA} {vs : List V} {Q : List V → Hp → Prop} (h : VaA ts σ H vs) (k : Q vs H) : ts σ H Q := h Q k
def LstG (xs : List V) (H : Hp) (Q : VK) : Prop := xs.length ≤ sizeLine ∧ ∀ p, H p = none → Q (.ref p) (upd H p (.lst xs))
def TupG (xs : List V) (H : Hp) (Q : VK) : Prop := xs.length ≤ sizeLine ∧ ∀ p, H p = none → Q (.ref p) (upd H p (.tup xs))
theorem w_lst {ts : TA} (h : ts σ H fun xs H1 => LstG xs H1 Q) : L2.tLst ts σ H Q := h
theorem w_tup {ts : TA} (h : ts σ H fun xs H1 => TupG xs H1 Q) : L2.tTup ts σ H Q := h
theorem w_test {Q : Bool → Hp → Prop} (h : te σ H fun x H' => ∃ k, x = .bl k ∧ Q k H') : tTest te σ H Q := h
theorem w_B {Q : Bool → Hp → Prop} (h : te σ H fun x H' => ∃ k, x = .bl k ∧ Q k H') : tB te σ H Q := h
theorem w_bl {Q : Bool → Hp → Prop} (k : Q b H) : ∃ k, V.bl b = .bl k ∧ Q k H := ⟨b, rfl, k⟩
theorem w_not {Q : Bool → Hp → Prop} (h : t σ H fun c H1 => Q (!c) H1) : tNot t σ H Q := h
theorem w_and {Q : Bool → Hp → Prop} (h : t σ H fun c H1 => if c = true then tu σ H1 Q else Q false H1) : tAnd t tu σ H Q := h
theorem w_or {Q : Bool → Hp → Prop} (h : t σ H fun c H1 => if c = true then Q true H1 else tu σ H1 Q) : tOr t tu σ H Q := h
theorem w_andV (h : ta σ H fun x H1 => ∃ c, x = .bl c ∧ if c = true then tb σ H1 Q else Q (.bl false) H1) : tAndV ta tb σ H Q := h
theorem w_orV (h : ta σ H fun x H1 => ∃ c, x = .bl c ∧ if c = true then Q (.bl true) H1 else tb σ H1 Q) : tOrV ta tb σ H Q := h
theorem w_notV (h : ta σ H fun x H1 => ∃ c, x = .bl c ∧ Q (.bl (!c)) H1) : tNotV ta σ H Q := h
theorem w_blV {P : Bool → Prop} (k : P b) : ∃ k, V.bl b = .bl k ∧ P k := ⟨b, rfl, k⟩
theorem w_I0 {g : Int → Int → V} (k : Q (g i j) H) : rI0 g (.int i) (.int j) H Q := ⟨i, j, rfl, rfl, k⟩
theorem w_I {C : Int → Int → Prop} {g : Int → Int → V} (hc : C i j) (k : Q (g i j) H) : rI C g (.int i) (.int j) H Q := ⟨i, j, rfl, rfl, hc, k⟩
theorem w_U {g : Int → V} (k : Q (g i) H) : rU g (.int i) H Q := ⟨i, rfl, k⟩
theorem w_mul {r : Int} (h : Mi.mul i j = some r) (k : Q (.int r) H) : rI CMul (fun i j => .int (i * j)) (.int i) (.int j) H Q := ⟨i, j, rfl, rfl, (mulC h).1, by show Q (.int (i * j)) H; rw [(mulC h).2]; exact k⟩
theorem w_mod {r : Int} (h : Mi.mod i j = some r) (k : Q (.int r) H) : rI (fun _ j => 0 < j) (fun i j => .int (i % j)) (.int i) (.int j) H Q := ⟨i, j, rfl, rfl, (modC h).1, by show Q (.int (i % j)) H; rw [(modC h).2]; exact k⟩
theorem w_fdiv {r : Int} (h : Mi.fdiv i j = some r) (k : Q (.int r) H) : rI CDivW (fun i j => .int (i / j)) (.int i) (.int j) H Q := ⟨i, j, rfl, rfl, (divC h).1, by show Q (.int (i / j)) H; rw [(divC h).2]; exact k⟩
theorem w_eqI (k : Q (.bl (decide (i = j))) H) : rEq (.int i) (.int j) H Q := ⟨rfl, by rw [dI]; exact k⟩
theorem w_neI (k : Q (.bl (!decide (i = j))) H) : rNe (.int i) (.int j) H Q := ⟨rfl, by rw [dI]; exact k⟩
theorem w_eqB (k : Q (.bl (decide (b = c))) H) : rEq (.bl b) (.bl c) H Q := ⟨rfl, by rw [dB]; exact k⟩
theorem w_neB (k : Q (.bl (!decide (b = c))) H) : rNe (.bl b) (.bl c) H Q := ⟨rfl, by rw [dB]; exact k⟩
theorem w_int (k : Q (.int i) H) : rInt1 [.int i] H Q := .inl ⟨i, rfl, k⟩
theorem w_max2 (k : Q (.int (max i j)) H) : rMax2 [.int i, .int j] H Q := ⟨i, j, rfl, by
  have e : (if j > i then j else i) = max i j := by split <;> omega
  rw [e]; exact k⟩
theorem w_min2 (k : Q (.int (min i j)) H) : rMin2 [.int i, .int j] H Q := ⟨i, j, rfl, by
  have e : (if j < i then j else i) = min i j := by split <;> omega
  rw [e]; exact k⟩
theorem w_lenL {xs : List α} (r : (yLst τ).rep K H F v xs) (k : Q (.int (xs.length : Int)) H) : rLenQ K [v] H Q := by
  obtain ⟨a, vs, e, s, q⟩ := lst_sq r
  subst e
  exact ⟨a, vs, rfl, .inl s, by rw [pr_len q]; exact k⟩
theorem w_lenT {xs : List α} (r : (yTupL τ).rep K H F v xs) (k : Q (.int (xs.length : Int)) H) : rLenQ K [v] H Q := by
  obtain ⟨a, vs, e, s, q⟩ := tupl_sq r
  subst e
  exact ⟨a, vs, rfl, .inr s, by rw [pr_len q]; exact k⟩
theorem w_ixL {xs : List α} {x : α} (r : (yLst τ).rep K H F v xs) (h : Mi.at_ xs i = some x) (k : ∀ u, τ.rep K H [] u x → Q u H) : rIxL K v (.int i) H Q := by
  obtain ⟨a, vs, e, s, q⟩ := lst_sq r
  subst e
  obtain ⟨u, e, ru⟩ := pr_at q h
  exact ⟨a, vs, i, u, rfl, rfl, s, e, k u ru⟩
theorem w_ixT {xs : List α} {x : α} (r : (yTupL τ).rep K H F v xs) (h : Mi.at_ xs i = some x) (k : ∀ u, τ.rep K H [] u x → Q u H) : rIxT K v (.int i) H Q := by
  obtain ⟨a, vs, e, s, q⟩ := tupl_sq r
  subst e
  obtain ⟨u, e, ru⟩ := pr_at q h
  exact ⟨a, vs, i, u, rfl, rfl, s, e, k u ru⟩
theorem e_lst {vs : List V} {xs : List α} (z : vs.length ≤ Mi.big) (r : Paired (fun u x => τ.rep K H [] u x) vs xs) (k : ∀ p H', H p = none → Chg [] H H' → (yLst τ).rep K H' [p] (.ref p) xs → Q (.ref p) H') :
    LstG vs H Q := ⟨sz z, fun p np => k p _ np (Chg.new np)
      ⟨p, vs, rfl, rfl, upd_same, Paired.mapP r fun u x q => Ty.ex q (Chg.new np)⟩⟩
theorem e_tup {ty : Tys α} {vs : List V} {d : α} {F : List Addr} (z : vs.length ≤ Mi.big) (r : ty.rep K H F vs d) (k : ∀ p H', H p = none → Chg [] H H' → (yTup ty).rep K H' F (.ref p) d → Q (.ref p) H') :
    TupG vs H Q := ⟨sz z, fun p np => k p _ np (Chg.new np)
      ⟨p, vs, rfl, .inl (.inl upd_same), ty.keep r fun b o e _ => by rw [upd_ne (ne_of_none e np)]; exact e⟩⟩
/-! ### statements -/
theorem w_asg {g : TG} (h : te σ H fun x H1 => g x σ H1 D.nx) : tAsg te g D σ H := h
theorem w_drop (h : te σ H fun _ H1 => D.nx σ H1) : tDrop te D σ H := h
theorem w_ret (h : te σ H D.rt) : tRet te D σ H := h
theorem w_retN (h : D.rt .non H) : tRetN D σ H := h
theorem w_next (h : D.nx σ H) : tNext D σ H := h
theorem w_cont (h : D.ct σ H) : tCont D σ H := h
theorem w_break (h : D.bk σ H) : tBreak D σ H := h
theorem w_ifS (h : t σ H fun b H1 => if b = true then t1 D σ H1 else t2 D σ H1) : tIfS t t1 t2 D σ H := h
theorem w_ifE (h : t σ H fun c H1 => if c = true then ta σ H1 Q else tb σ H1 Q) : tIf t ta tb σ H Q := h
theorem w_gsub {to ti : TE} {ts : TSet} {Q : L2.St → Hp → Prop} (h : to σ H fun o H1 => ti σ H1 fun i H2 => ts o i v H2 fun H3 => Q σ H3) : gSub to ti ts v σ H Q := h
theorem w_bm {T : String} {r : V → List V → Hp → VK → Prop} {to : TE} {ts : TA} (h : to σ H fun x H1 => tyV K T x H1 ∧ ts σ H1 fun xs H2 => r x xs H2 Q) : tBM K T r to ts σ H Q := h
theorem w_bm0 {T : String} {r : V → List V → Hp → VK → Prop} {to : TE} (h : to σ H fun x H1 => tyV K T x H1 ∧ r x [] H1 Q) : tBM0 K T r to σ H Q := h
theorem tyv_lst {xs : List α} (r : (yLst τ).rep K H F v xs) : tyV K "list" v H := by
  obtain ⟨a, vs, rfl, s, q⟩ := lst_sq r
  exact .inl ⟨rfl, _, s⟩
/-- a join of tests -/
theorem j_tt {R : Hp → Prop} {Q : Bool → Hp → Prop} (c : Bool) (w : ∀ Q' : Bool → Hp → Prop, (∀ H', R H' → Q' c H') → t σ H Q') (k : ∀ H', R H' → Q c H') : t σ H Q := w Q k
theorem j_te {R : Hp → Prop} (x : V) (w : ∀ Q' : VK, (∀ H', R H' → Q' x H') → te σ H Q') (k : ∀ H', R H' → Q x H') : te σ H Q := w Q k
/-! ### statements with what follows -/
theorem q_asg {g : TG} (h : te σ H fun x H1 => g x σ H1 (t2 D)) : tSeq (tAsg te g) t2 D σ H := h
theorem q_setE {k : Nat} {w : V} (h : Val te σ H v) (ev : v = w) (e : σ.set k (some w) = σ') (q : t2 D σ' H) : tSeq (tAsg te (gName k)) t2 D σ H := by
  subst ev
  exact h _ (by show t2 D (σ.set k (some v)) H; rw [e]; exact q)
theorem q_drop (h : te σ H fun _ H1 => t2 D σ H1) : tSeq (tDrop te) t2 D σ H := h
theorem q_ret (h : te σ H D.rt) : tSeq (tRet te) t2 D σ H := h
theorem q_retN (h : D.rt .non H) : tSeq tRetN t2 D σ H := h
theorem q_pass (h : t2 D σ H) : tSeq tNext t2 D σ H := h
theorem q_cont (h : D.ct σ H) : tSeq tCont t2 D σ H := h
theorem q_brk (h : D.bk σ H) : tSeq tBreak t2 D σ H := h
theorem q_if {t3 : TS} (h : Ans t σ H b) (h1 : b = true → t1 { D with nx := t2 D } σ H) (h2 : b = false → t3 { D with nx := t2 D } σ H) : tSeq (tIfS t t1 t3) t2 D σ H := h _ (c_if h1 h2)
theorem q_ifS {t3 : TS} (h : t σ H fun b H1 => if b = true then t1 { D with nx := t2 D } σ H1 else t3 { D with nx := t2 D } σ H1) : tSeq (tIfS t t1 t3) t2 D σ H := h
theorem w_fall (h : t2 D σ H) : tNext { D with nx := t2 D } σ H := h
theorem w_nextJ {nx bk ct : L2.St → Hp → Prop} {rt : VK} (h : nx σ H) : tNext (Ends.mk nx rt bk ct) σ H := h
theorem q_aug {k : Nat} {f : Int → Int → Int} {m n p : Int} (hx : σ[k]? = some (some (.int m))) (h : Val te σ H (.int n)) (en : f m n = p) (e : σ.set k (some (.int p)) = σ') (q : t2 D σ' H) : tSeq (tAug k te (ipI f)) t2 D σ H :=
  ⟨_, hx, h _ ⟨m, n, rfl, rfl, by rw [en]; show t2 D (List.set σ k (some (.int p))) H; rw [e]; exact q⟩⟩
/-! ### loops -/
def LoopG (J : It) (g : TG) (tb : TS) (D : Ends) (nx : L2.St → Hp → Prop) (σ : L2.St) (H : Hp) : Prop := ∃ W : Nat → Nat → L2.St → Hp → Prop, (∃ m, W 0 m σ H) ∧ ∀ i m σ H, W i m σ H →
  (J.stop i H ∧ nx σ H) ∨ (J.go i H ∧ ∃ N : L2.St → Hp → Prop, (∀ σ' H', N σ' H' → ∃ m', m' < m ∧ W (i + 1) m' σ' H') ∧ ∀ x H', J.yld i H x H' → g x σ H' fun σ2 H2 => tb { D with nx := N, ct := N, bk := nx } σ2 H2)
theorem q_for {wi : TI} {g : TG} {tb : TS} (h : wi σ H fun J H1 => LoopG J g tb D (t2 D) σ H1) : tSeq (tFor wi g tb) t2 D σ H := h
theorem w_iList {tl : TE} {R : It → Hp → Prop} (h : tl σ H fun x H1 => ∃ a, x = .ref a ∧ (∃ xs, SqL K H1 a xs) ∧ R (Itl K a) H1) : iList K tl σ H R := h
theorem w_iTup {tl : TE} {R : It → Hp → Prop} (h : tl σ H fun x H1 => ∃ a, x = .ref a ∧ (∃ xs, SqT K H1 a xs) ∧ R (Itt K a) H1) : iTup K tl σ H R := h
theorem w_iRng1 {ts : TA} {R : It → Hp → Prop} (h : ts σ H fun vs H1 => ∃ j : Int, vs = [.int j] ∧ -(2 ^ 62) ≤ j ∧ j < 2 ^ 62 ∧ R (Itr 0 j.toNat) H1) : iRng1 ts σ H R := h
theorem w_iRng2 {ts : TA} {R : It → Hp → Prop} (h : ts σ H fun vs H1 => ∃ i j : Int, vs = [.int i, .int j] ∧ (-(2 ^ 62) ≤ i ∧ i < 2 ^ 62 ∧ -(2 ^ 62) ≤ j ∧ j < 2 ^ 62) ∧ R (Itr i (j - i).toNat) H1) : iRng2 ts σ H R := h
theorem rngO_some {lo hi : Int} {g : List Int} (h : Mi.rngO lo hi = some g) : g = Mi.rng lo hi ∧ (-(2 ^ 60) ≤ lo ∧ lo < 2 ^ 60) ∧ (-(2 ^ 60) ≤ hi ∧ hi < 2 ^ 60) := by
  unfold Mi.rngO at h
  split at h
  · rename_i c
    exact ⟨(Option.some.inj h).symm, c⟩
  · cases h
theorem rng_len (lo hi : Int) : (Mi.rng lo hi).length = (hi - lo).toNat := by unfold Mi.rng; rw [List.length_map, List.length_range]
theorem rng_at {lo hi : Int} {i : Nat} (h : i < (hi - lo).toNat) : (Mi.rng lo hi)[i]? = some (lo + i) := by
  unfold Mi.rng
  rw [List.getElem?_map, List.getElem?_range h]
  rfl
theorem l_rng {g : TG} {tb : TS} {nx : L2.St → Hp → Prop} {lo hi : Int} (Pv : Nat → L2.St → Hp → Prop) (h0 : Pv 0 σ H)
    (hs : ∀ (i : Nat) (x : Int) σ' H', (Mi.rng lo hi)[i]? = some x → Pv i σ' H' → g (.int x) σ' H' fun σ2 H2 => tb { D with nx := Pv (i + 1), ct := Pv (i + 1), bk := nx } σ2 H2) (hd : ∀ σ' H', Pv (Mi.rng lo hi).length σ' H' → nx σ' H') :
    LoopG (Itr lo (hi - lo).toNat) g tb D nx σ H := for_range (D := { D with nx := nx }) (lo := lo) (n := (hi - lo).toNat) Pv h0 (fun i σ' H' hi' p => hs i _ σ' H' (rng_at hi') p) (fun σ' H' p => hd σ' H' (by rw [rng_len]; exact p))
theorem l_rng1 {g : TG} {tb : TS} {nx : L2.St → Hp → Prop} {hi : Int} {xs : List Int} (hg : Mi.rngO 0 hi = some xs) (Pv : Nat → L2.St → Hp → Prop) (h0 : Pv 0 σ H)
    (hs : ∀ (i : Nat) (x : Int) σ' H', xs[i]? = some x → Pv i σ' H' → g (.int x) σ' H' fun σ2 H2 => tb { D with nx := Pv (i + 1), ct := Pv (i + 1), bk := nx } σ2 H2) (hd : ∀ σ' H', Pv xs.length σ' H' → nx σ' H') :
    ∃ j : Int, [V.int hi] = [.int j] ∧ -(2 ^ 62) ≤ j ∧ j < 2 ^ 62 ∧ LoopG (Itr 0 j.toNat) g tb D nx σ H := by
  obtain ⟨rfl, _, h1, h2⟩ := rngO_some hg
  refine ⟨hi, rfl, by omega, by omega, ?_⟩
  have e : hi.toNat = (hi - 0).toNat := by rw [Int.sub_zero]
  rw [e]
  exact l_rng Pv h0 hs hd
theorem l_rng2 {g : TG} {tb : TS} {nx : L2.St → Hp → Prop} {lo hi : Int} {xs : List Int} (hg : Mi.rngO lo hi = some xs) (Pv : Nat → L2.St → Hp → Prop) (h0 : Pv 0 σ H)
    (hs : ∀ (i : Nat) (x : Int) σ' H', xs[i]? = some x → Pv i σ' H' → g (.int x) σ' H' fun σ2 H2 => tb { D with nx := Pv (i + 1), ct := Pv (i + 1), bk := nx } σ2 H2) (hd : ∀ σ' H', Pv xs.length σ' H' → nx σ' H') :
    ∃ i j : Int, [V.int lo, V.int hi] = [.int i, .int j] ∧ (-(2 ^ 62) ≤ i ∧ i < 2 ^ 62 ∧ -(2 ^ 62) ≤ j ∧ j < 2 ^ 62) ∧ LoopG (Itr i (j - i).toNat) g tb D nx σ H := by
  obtain ⟨rfl, h1, h2⟩ := rngO_some hg
  exact ⟨lo, hi, rfl, by omega, l_rng Pv h0 hs hd⟩
theorem l_lst {g : TG} {tb : TS} {nx : L2.St → Hp → Prop} {xs : List α} (r : (yLst τ).rep K H F v xs) (Pv : Nat → L2.St → Hp → Prop) (h0 : Pv 0 σ H) (hl : ∀ i σ' H', Pv i σ' H' → (yLst τ).rep K H' F v xs)
    (hs : ∀ (i : Nat) (x : α) (u : V) σ' H', xs[i]? = some x → τ.rep K H' [] u x → Pv i σ' H' → g u σ' H' fun σ2 H2 => tb { D with nx := Pv (i + 1), ct := Pv (i + 1), bk := nx } σ2 H2) (hd : ∀ σ' H', Pv xs.length σ' H' → nx σ' H') :
    ∃ a, v = .ref a ∧ (∃ xs, SqL K H a xs) ∧ LoopG (Itl K a) g tb D nx σ H := by
  obtain ⟨a, vs, e, s, q⟩ := lst_sq r
  refine ⟨a, e, ⟨vs, s⟩, fun i m σ' H' => m = xs.length - i ∧ i ≤ xs.length ∧ Pv i σ' H', ⟨xs.length, by omega, Nat.zero_le _, h0⟩, ?_⟩
  rintro i m σ' H' ⟨rfl, hi, p⟩
  obtain ⟨a', vs', e', s', q'⟩ := lst_sq (hl i σ' H' p)
  obtain rfl : a = a' := by rw [e] at e'; exact V.ref.inj e'
  by_cases hlt : i < xs.length
  · obtain ⟨u, hu, ru⟩ := pr_get q' (List.getElem?_eq_getElem hlt)
    refine .inr ⟨⟨vs', u, s', hu⟩, Pv (i + 1), fun σ2 H2 p' => ⟨xs.length - (i + 1), by omega, rfl, hlt, p'⟩, fun x H2 y => ?_⟩
    obtain ⟨rfl, y⟩ := y
    obtain rfl : x = u := Option.some.inj ((y _ s').symm.trans hu)
    exact hs i _ _ σ' _ (List.getElem?_eq_getElem hlt) ru p
  · obtain rfl : i = xs.length := by omega
    exact .inl ⟨⟨vs', s', by rw [pr_len q']; exact Nat.le_refl _⟩, hd σ' H' p⟩
theorem l_tup {g : TG} {tb : TS} {nx : L2.St → Hp → Prop} {xs : List α} (r : (yTupL τ).rep K H F v xs) (Pv : Nat → L2.St → Hp → Prop) (h0 : Pv 0 σ H) (hl : ∀ i σ' H', Pv i σ' H' → (yTupL τ).rep K H' F v xs)
    (hs : ∀ (i : Nat) (x : α) (u : V) σ' H', xs[i]? = some x → τ.rep K H' [] u x → Pv i σ' H' → g u σ' H' fun σ2 H2 => tb { D with nx := Pv (i + 1), ct := Pv (i + 1), bk := nx } σ2 H2) (hd : ∀ σ' H', Pv xs.length σ' H' → nx σ' H') :
    ∃ a, v = .ref a ∧ (∃ xs, SqT K H a xs) ∧ LoopG (Itt K a) g tb D nx σ H := by
  obtain ⟨a, vs, e, s, q⟩ := tupl_sq r
  refine ⟨a, e, ⟨vs, s⟩, fun i m σ' H' => m = xs.length - i ∧ i ≤ xs.length ∧ Pv i σ' H', ⟨xs.length, by omega, Nat.zero_le _, h0⟩, ?_⟩
  rintro i m σ' H' ⟨rfl, hi, p⟩
  obtain ⟨a', vs', e', s', q'⟩ := tupl_sq (hl i σ' H' p)
  obtain rfl : a = a' := by rw [e] at e'; exact V.ref.inj e'
  by_cases hlt : i < xs.length
  · obtain ⟨u, hu, ru⟩ := pr_get q' (List.getElem?_eq_getElem hlt)
    refine .inr ⟨⟨vs', u, s', hu⟩, Pv (i + 1), fun σ2 H2 p' => ⟨xs.length - (i + 1), by omega, rfl, hlt, p'⟩, fun x H2 y => ?_⟩
    obtain ⟨rfl, y⟩ := y
    obtain rfl : x = u := Option.some.inj ((y _ s').symm.trans hu)
    exact hs i _ _ σ' _ (List.getElem?_eq_getElem hlt) ru p
  · obtain rfl : i = xs.length := by omega
    exact .inl ⟨⟨vs', s', by rw [pr_len q']; exact Nat.le_refl _⟩, hd σ' H' p⟩
end
/-! ### the items of tuples -/
/-- the n-th item has the kind τ and the data p d -/
def At {α β : Type} (ts : Tys α) (n : Nat) (τ : Ty β) (p : α → β) : Prop := ∀ {K : PySem.W.Frag} {H : Hp} {F : List Addr} {vs : List V} {d : α}, ts.rep K H F vs d → ∃ u F1, vs[n]? = some u ∧ τ.rep K H F1 u (p d) ∧ ∀ a ∈ F1, a ∈ F
theorem at1 {α : Type} {τ : Ty α} : At (sOne τ) 0 τ id := fun h => by
  obtain ⟨v, rfl, r⟩ := h
  exact ⟨v, _, rfl, r, fun _ h => h⟩
theorem at0 {α β : Type} {τ : Ty α} {ts : Tys β} : At (sCons τ ts) 0 τ (fun d => d.1) := fun h => by
  obtain ⟨v, ws, F1, F2, rfl, rfl, r, q⟩ := h
  exact ⟨v, F1, rfl, r, fun _ h => List.mem_append_left _ h⟩
theorem atS {α β γ : Type} {τ : Ty α} {ts : Tys β} {n : Nat} {υ : Ty γ} {p : β → γ} (A : At ts n υ p) : At (sCons τ ts) (n + 1) υ (fun d => p d.2) := fun h => by
  obtain ⟨v, ws, F1, F2, rfl, rfl, r, q⟩ := h
  obtain ⟨u, F3, e, ru, sub⟩ := A q
  exact ⟨u, F3, e, ru, fun _ h => List.mem_append_right _ (sub _ h)⟩
theorem Dj.sub {F G F1 : List Addr} (d : Dj F G) (s : ∀ a ∈ F1, a ∈ F) : Dj F1 G := fun a h => d a (s a h)
theorem itm_tup {α β : Type} {ts : Tys α} {n : Nat} {τ : Ty β} {p : α → β} {K : PySem.W.Frag} {H : Hp} {F : List Addr} {v : V} {d : α} (A : At ts n τ p) (r : (yTup ts).rep K H F v d) :
    ∃ u F1, τ.rep K H F1 u (p d) ∧ (∀ a ∈ F1, a ∈ F) ∧ (∀ {Q : VK}, Q u H → rIxT K v (.int (n : Int)) H Q) ∧ ∀ {σ : L2.St} {ta tb : TE}, Val ta σ H v → Val tb σ H (.int (n : Int)) → Val (tOp (rIxT K) ta tb) σ H u := by
  obtain ⟨a, vs, rfl, s, q⟩ := r
  obtain ⟨u, F1, e, ru, sub⟩ := A q
  have k : ∀ {Q : VK}, Q u H → rIxT K (.ref a) (.int (n : Int)) H Q := fun k => ⟨a, vs, n, u, rfl, rfl, s, atI_nat e, k⟩
  exact ⟨u, F1, ru, sub, k, fun ha hb => val_op ha hb fun Q q => k q⟩
end G

namespace G
open PySem PySem.Spec PyProof.Rows L2
section
variable {K : PySem.W.Frag} {σ σ' : L2.St} {H : Hp} {F G F1 F2 : List Addr} {ta tb te : TE} {v u x y w : V} {i j : Int} {t tu : TT} {b c a : Bool} {α β : Type} {τ : Ty α} {Q : VK} {D : Ends} {t1 t2 : TS}
theorem s_setE {k : Nat} (h : Val te σ H v) (ev : v = w) (e : σ.set k (some w) = σ') (q : D.nx σ' H) : tAsg te (gName k) D σ H := s_set (ev ▸ h) e q
theorem g_nameE {k : Nat} {Q : L2.St → Hp → Prop} (ev : v = w) (e : σ.set k (some w) = σ') (q : Q σ' H) : gName k v σ H Q := g_name (by rw [ev]; exact e) q
theorem s_aug {k : Nat} {f : Int → Int → Int} {m n p : Int} (hx : σ[k]? = some (some (.int m))) (h : Val te σ H (.int n)) (en : f m n = p) (e : σ.set k (some (.int p)) = σ') (q : D.nx σ' H) : tAug k te (ipI f) D σ H :=
  ⟨_, hx, h _ ⟨m, n, rfl, rfl, by rw [en]; show D.nx (List.set σ k (some (.int p))) H; rw [e]; exact q⟩⟩
/-! ### None or data -/
theorem nn_int : V.int i ≠ .non := fun z => nomatch z
theorem nn_bl : V.bl b ≠ .non := fun z => nomatch z
theorem nn_str {s : Str} : V.str s ≠ .non := fun z => nomatch z
theorem nn_lst {xs : List α} (r : (yLst τ).rep K H F v xs) : v ≠ .non := by obtain ⟨a, vs, rfl, _⟩ := r; exact fun z => nomatch z
theorem nn_tupl {xs : List α} (r : (yTupL τ).rep K H F v xs) : v ≠ .non := by obtain ⟨a, vs, rfl, _⟩ := r; exact fun z => nomatch z
theorem nn_tup {ts : Tys α} {d : α} (r : (yTup ts).rep K H F v d) : v ≠ .non := by obtain ⟨a, vs, rfl, _⟩ := r; exact fun z => nomatch z
theorem opt_some {d : Option α} {x : α} (r : (yOpt τ).rep K H F v d) (h : d = some x) : τ.rep K H F v x := by subst h; exact r.2
theorem opt_int {d : Option Int} {x : Int} (r : (yOpt yInt).rep K H F v d) (h : d = some x) : F = [] ∧ v = .int x := opt_some r h
theorem opt_bool {d : Option Bool} {x : Bool} (r : (yOpt yBool).rep K H F v d) (h : d = some x) : F = [] ∧ v = .bl x := opt_some r h
theorem opt_str {d : Option (List Nat)} {x : List Nat} (r : (yOpt yStr).rep K H F v d) (h : d = some x) : F = [] ∧ v = .str (toS x) := opt_some r h
theorem opt_dec {d : Option α} (r : (yOpt τ).rep K H F v d) : decide (v = .non) = d.isNone := by
  cases d with
  | none => obtain ⟨_, rfl⟩ := r; rfl
  | some x => exact decide_eq_false r.1
theorem opt_decN {d : Option α} (r : (yOpt τ).rep K H F v d) : (!decide (v = .non)) = d.isSome := by
  rw [opt_dec r]; cases d <;> rfl
theorem val_isN {d : Option α} (r : (yOpt τ).rep K H F v d) (ha : Val ta σ H v) : Val (tOp rIsN ta (tC .non)) σ H (.bl d.isNone) := val_op ha val_c fun Q q => ⟨rfl, by rw [opt_dec r]; exact q⟩
theorem val_notN {d : Option α} (r : (yOpt τ).rep K H F v d) (ha : Val ta σ H v) : Val (tOp rNotN ta (tC .non)) σ H (.bl d.isSome) := val_op ha val_c fun Q q => ⟨rfl, by rw [opt_decN r]; exact q⟩
theorem w_isN {d : Option α} (r : (yOpt τ).rep K H F v d) (k : Q (.bl d.isNone) H) : rIsN v .non H Q := ⟨rfl, by rw [opt_dec r]; exact k⟩
theorem w_notN {d : Option α} (r : (yOpt τ).rep K H F v d) (k : Q (.bl d.isSome) H) : rNotN v .non H Q := ⟨rfl, by rw [opt_decN r]; exact k⟩
/-! ### footprints -/
theorem Dj.app (d1 : Dj F1 G) (d2 : Dj F2 G) : Dj (F1 ++ F2) G := fun a h => (List.mem_append.mp h).elim (d1 a) (d2 a)
theorem app_fresh {H0 : Hp} (n1 : ∀ a ∈ F1, H0 a = none) (n2 : ∀ a ∈ F2, H0 a = none) : ∀ a ∈ F1 ++ F2, H0 a = none := fun a h => (List.mem_append.mp h).elim (n1 a) (n2 a)
theorem nil_fresh {H0 : Hp} : ∀ a ∈ ([] : List Addr), H0 a = none := fun a h => nomatch h
def Fz {α : Type} (τ : Ty α) : Prop := ∀ {K : PySem.W.Frag} {H : Hp} {F : List Addr} {v : V} {d : α}, τ.rep K H F v d → F = []
def Fzs {α : Type} (τ : Tys α) : Prop := ∀ {K : PySem.W.Frag} {H : Hp} {F : List Addr} {v : List V} {d : α}, τ.rep K H F v d → F = []
theorem fz_int : Fz yInt := fun h => h.1
theorem fz_bool : Fz yBool := fun h => h.1
theorem fz_str : Fz yStr := fun h => h.1
theorem fz_none : Fz yNon := fun h => h.1
theorem fz_scr : Fz yScr := fun h => h.1
theorem fz_tupl {τ : Ty α} : Fz (yTupL τ) := fun h => by obtain ⟨_, _, _, e, _⟩ := h; exact e
theorem fz_opt {τ : Ty α} (z : Fz τ) : Fz (yOpt τ) := fun {K H F v d} h => by
  cases d with
  | none => exact h.1
  | some x => exact z h.2
theorem fzs_one {τ : Ty α} (z : Fz τ) : Fzs (sOne τ) := fun h => by obtain ⟨_, _, r⟩ := h; exact z r
theorem fzs_cons {τ : Ty α} {ts : Tys β} (z : Fz τ) (zs : Fzs ts) : Fzs (sCons τ ts) := fun h => by
  obtain ⟨_, _, F1, F2, _, e, r, q⟩ := h
  rw [e, z r, zs q]; rfl
theorem fz_tup {ts : Tys α} (z : Fzs ts) : Fz (yTup ts) := fun h => by obtain ⟨_, _, _, _, r⟩ := h; exact z r
def LenS {α : Type} (ts : Tys α) (n : Nat) : Prop := ∀ {K : PySem.W.Frag} {H : Hp} {F : List Addr} {vs : List V} {d : α}, ts.rep K H F vs d → vs.length = n
theorem lens_one {τ : Ty α} : LenS (sOne τ) 1 := fun h => by obtain ⟨_, e, _⟩ := h; rw [e]; rfl
theorem lens_cons {τ : Ty α} {ts : Tys β} {n : Nat} (z : LenS ts n) : LenS (sCons τ ts) (n + 1) := fun h => by
  obtain ⟨_, _, _, _, e, _, _, q⟩ := h
  rw [e, List.length_cons, z q]
theorem val_lenU {ts : Tys α} {d : α} {n : Nat} (l : LenS ts n) (r : (yTup ts).rep K H F v d) (ha : Val ta σ H v) : Val (tCB (rLenQ K) (tCons ta tNil)) σ H (.int (n : Int)) := by
  obtain ⟨p, vs, rfl, s, q⟩ := r
  exact fun Q k => ha _ ⟨p, vs, rfl, .inr s, by rw [l q]; exact k⟩
/-! ### unpacking -/
theorem g_names {Q : L2.St → Hp → Prop} {σ1 : L2.St} (e : σ1 = σ') (k : Q σ' H) : Q σ1 H := e ▸ k
theorem g_tup2 {β : Type} {τ1 : Ty α} {τ2 : Ty β} {d : α × β} {i1 i2 : Nat} {Q : L2.St → Hp → Prop} (r : (yTup (sCons τ1 (sOne τ2))).rep K H [] v d)
    (k : ∀ u1 u2, τ1.rep K H [] u1 d.1 → τ2.rep K H [] u2 d.2 → Q ((σ.set i1 (some u1)).set i2 (some u2)) H) : gTup K 2 (gCons (gName i1) (gCons (gName i2) gNil)) v σ H Q := by
  obtain ⟨a, vs, rfl, s, v1, ws, F1, F2, rfl, e, r1, v2, rfl, r2⟩ := r
  obtain ⟨rfl, rfl⟩ : F1 = [] ∧ F2 = [] := List.append_eq_nil_iff.mp e.symm
  exact ⟨a, _, rfl, s, rfl, v1, _, rfl, v2, _, rfl, rfl, k v1 v2 r1 r2⟩
theorem g_tup3 {β γ : Type} {τ1 : Ty α} {τ2 : Ty β} {τ3 : Ty γ} {d : α × β × γ} {i1 i2 i3 : Nat} {Q : L2.St → Hp → Prop} (r : (yTup (sCons τ1 (sCons τ2 (sOne τ3)))).rep K H [] v d)
    (k : ∀ u1 u2 u3, τ1.rep K H [] u1 d.1 → τ2.rep K H [] u2 d.2.1 → τ3.rep K H [] u3 d.2.2 → Q (((σ.set i1 (some u1)).set i2 (some u2)).set i3 (some u3)) H) : gTup K 3 (gCons (gName i1) (gCons (gName i2) (gCons (gName i3) gNil))) v σ H Q := by
  obtain ⟨a, vs, rfl, s, v1, ws, F1, F2, rfl, e, r1, v2, ws2, F3, F4, rfl, e2, r2, v3, rfl, r3⟩ := r
  obtain ⟨rfl, rfl⟩ : F1 = [] ∧ F2 = [] := List.append_eq_nil_iff.mp e.symm
  obtain ⟨rfl, rfl⟩ : F3 = [] ∧ F4 = [] := List.append_eq_nil_iff.mp e2.symm
  exact ⟨a, _, rfl, s, rfl, v1, _, rfl, v2, _, rfl, v3, _, rfl, rfl, k v1 v2 v3 r1 r2 r3⟩
theorem g_tup4 {β γ δ : Type} {τ1 : Ty α} {τ2 : Ty β} {τ3 : Ty γ} {τ4 : Ty δ} {d : α × β × γ × δ} {i1 i2 i3 i4 : Nat} {Q : L2.St → Hp → Prop} (r : (yTup (sCons τ1 (sCons τ2 (sCons τ3 (sOne τ4))))).rep K H [] v d)
    (k : ∀ u1 u2 u3 u4, τ1.rep K H [] u1 d.1 → τ2.rep K H [] u2 d.2.1 → τ3.rep K H [] u3 d.2.2.1 → τ4.rep K H [] u4 d.2.2.2 → Q ((((σ.set i1 (some u1)).set i2 (some u2)).set i3 (some u3)).set i4 (some u4)) H) : gTup K 4 (gCons (gName i1) (gCons (gName i2) (gCons (gName i3) (gCons (gName i4) gNil)))) v σ H Q := by
  obtain ⟨a, vs, rfl, s, v1, ws, F1, F2, rfl, e, r1, v2, ws2, F3, F4, rfl, e2, r2, v3, ws3, F5, F6, rfl, e3, r3, v4, rfl, r4⟩ := r
  obtain ⟨rfl, rfl⟩ : F1 = [] ∧ F2 = [] := List.append_eq_nil_iff.mp e.symm
  obtain ⟨rfl, rfl⟩ : F3 = [] ∧ F4 = [] := List.append_eq_nil_iff.mp e2.symm
  obtain ⟨rfl, rfl⟩ : F5 = [] ∧ F6 = [] := List.append_eq_nil_iff.mp e3.symm
  exact ⟨a, _, rfl, s, rfl, v1, _, rfl, v2, _, rfl, v3, _, rfl, v4, _, rfl, rfl, k v1 v2 v3 v4 r1 r2 r3 r4⟩
/-! ### range(lo, hi, -1) -/
theorem w_iRng3 {ts : TA} {R : It → Hp → Prop} (h : ts σ H fun vs H1 => ∃ (i j c : Int) (n : Nat), vs = [.int i, .int j, .int c] ∧ RgC i j c n ∧ R (Itc i c n) H1) : iRng3 ts σ H R := h
theorem l_rngD {g : TG} {tb : TS} {nx : L2.St → Hp → Prop} {lo hi : Int} {xs : List Int} (hg : Mi.rngDownO lo hi = some xs) (Pv : Nat → L2.St → Hp → Prop) (h0 : Pv 0 σ H)
    (hs : ∀ (i : Nat) (x : Int) σ' H', xs[i]? = some x → Pv i σ' H' → g (.int x) σ' H' fun σ2 H2 => tb { D with nx := Pv (i + 1), ct := Pv (i + 1), bk := nx } σ2 H2) (hd : ∀ σ' H', Pv xs.length σ' H' → nx σ' H') :
    ∃ (i j c : Int) (n : Nat), [V.int lo, V.int hi, V.int (-1)] = [.int i, .int j, .int c] ∧ RgC i j c n ∧ LoopG (Itc i c n) g tb D nx σ H := by
  unfold Mi.rngDownO at hg
  split at hg
  · rename_i hc
    obtain rfl := Option.some.inj hg
    have hl : (Mi.rngDown lo hi).length = (lo - hi).toNat := by unfold Mi.rngDown; rw [List.length_map, List.length_range]
    refine ⟨lo, hi, -1, (lo - hi).toNat, rfl, RgC.neg (by omega) (by omega) (by omega) (by omega), ?_⟩
    refine for_rangeC (D := { D with nx := nx }) (lo := lo) (c := -1) (n := (lo - hi).toNat) Pv h0 (fun i σ' H' hi' p => hs i _ σ' H' ?_ p) (fun σ' H' p => hd σ' H' (by rw [hl]; exact p))
    unfold Mi.rngDown
    rw [List.getElem?_map, List.getElem?_range hi']
    show some (lo - (i : Int)) = some (lo + (i : Int) * -1)
    congr 1
    omega
  · cases hg
end
end G
namespace G
open PySem PySem.Spec PyProof.Rows L2
/-- the def at one address is one def -/
theorem fn_law {P : Program} {w : World} {K : PySem.W.Frag} {mg : Str → Option Value} {x : Str} {k : Nat} {sp : Sp} {fa : Addr} (hfa : mg x = some (.ref fa)) {p : Str} (c : Cal P w K mg x [p] k sp) :
    ∃ fd : FuncData, (∀ (s : Shared) (v : Value), BindsTo s fd ⟨[v], []⟩ [(p, v)]) ∧ ∀ base : Heap, K.In base → base.Ns mainGlobals mg → FnOk P w K mg base CX0 k fa fd [p] sp := by
  obtain ⟨f, fd, g, _, b, ok⟩ := c.ex
  obtain rfl : fa = f := Value.ref.inj (Option.some.inj (hfa.symm.trans g))
  exact ⟨fd, fun s v => b s [v] rfl, fun base _ _ => ok base⟩
end G

namespace G
open PySem PySem.Spec PyProof.Rows L2
section
variable {K : PySem.W.Frag} {σ σ' : L2.St} {H : Hp} {F F1 F2 : List Addr} {ta tb te : TE} {v u x y w : V} {i j : Int} {t tu tt : TT} {b c a : Bool} {α β : Type} {τ : Ty α} {υ : Ty β} {Q : VK} {D : Ends} {t1 t2 : TS} {g : TG} {ws : List Nat}
/-! ### list comprehensions -/
/-- y goes to the list at D, then N -/
def AppG (D : Addr) (N : Hp → Prop) (y : V) (H : Hp) : Prop := ∃ acc, H D = some (.lst acc) ∧ acc.length < sizeLine ∧ N (upd H D (.lst (acc ++ [y])))
/-- one turn: the new list at D grows or not, then N -/
def TurnG (g : TG) (tt : TT) (te : TE) (ws : List Nat) (σ : L2.St) (D : Addr) (N : Hp → Prop) (x : V) (H : Hp) : Prop :=
  g x (wipe σ ws) H fun σ2 H2 => wipe σ2 ws = wipe σ ws ∧ tt σ2 H2 fun b H3 => if b = true then te σ2 H3 (AppG D N) else N H3
def CompG (J : It) (g : TG) (tt : TT) (te : TE) (ws : List Nat) (σ : L2.St) (H : Hp) (Q : VK) : Prop := ∀ D, H D = none → ∃ W : Nat → Nat → Hp → Prop, (∃ m, W 0 m (upd H D (.lst []))) ∧ ∀ i m H, W i m H →
  (J.stop i H ∧ Q (.ref D) H) ∨ (J.go i H ∧ ∃ N : Hp → Prop, (∀ H', N H' → ∃ m', m' < m ∧ W (i + 1) m' H') ∧ ∀ x H', J.yld i H x H' → TurnG g tt te ws σ D N x H')
theorem w_lc {wi : TI} (h : wi σ H fun J H1 => CompG J g tt te ws σ H1 Q) : tLc wi g tt te ws σ H Q := h
theorem w_yes {Q : Bool → Hp → Prop} (h : Q true H) : tYes σ H Q := h
theorem empty_lst {p : Addr} (np : H p = none) : (yLst τ).rep K (upd H p (.lst [])) [p] (.ref p) [] := ⟨p, [], rfl, rfl, upd_same, .nil⟩
theorem comp_by {J : It} (n : Nat) (Pv : Addr → Nat → Hp → Prop) (h0 : ∀ D H', H D = none → Chg [] H H' → (yLst τ).rep K H' [D] (.ref D) [] → Pv D 0 H')
    (hs : ∀ D i H', i < n → Pv D i H' → J.go i H' ∧ ∀ x H2, J.yld i H' x H2 → TurnG g tt te ws σ D (Pv D (i + 1)) x H2) (hd : ∀ D H', H D = none → Pv D n H' → J.stop n H' ∧ Q (.ref D) H') : CompG J g tt te ws σ H Q := by
  intro D hD
  refine ⟨fun i m H' => m = n - i ∧ i ≤ n ∧ Pv D i H', ⟨n, by omega, Nat.zero_le _, h0 D _ hD (Chg.new hD) (empty_lst hD)⟩, ?_⟩
  rintro i m H' ⟨rfl, hi, p⟩
  by_cases hlt : i < n
  · obtain ⟨h1, h2⟩ := hs D i H' hlt p
    exact .inr ⟨h1, Pv D (i + 1), fun H2 p' => ⟨n - (i + 1), by omega, rfl, hlt, p'⟩, h2⟩
  · obtain rfl : i = n := by omega
    exact .inl (hd D H' hD p)
theorem kc_lst {xs : List β} (r : (yLst υ).rep K H F v xs) (Pv : Addr → Nat → Hp → Prop) (h0 : ∀ D H', H D = none → Chg [] H H' → (yLst τ).rep K H' [D] (.ref D) [] → Pv D 0 H') (hl : ∀ D i H', Pv D i H' → (yLst υ).rep K H' F v xs)
    (hs : ∀ D (i : Nat) (x : β) (u : V) H', xs[i]? = some x → υ.rep K H' [] u x → Pv D i H' → TurnG g tt te ws σ D (Pv D (i + 1)) u H') (hd : ∀ D H', H D = none → Pv D xs.length H' → Q (.ref D) H') :
    ∃ a, v = .ref a ∧ (∃ xs, SqL K H a xs) ∧ CompG (Itl K a) g tt te ws σ H Q := by
  obtain ⟨a, vs, e, s, q⟩ := lst_sq r
  refine ⟨a, e, ⟨vs, s⟩, comp_by (K := K) (τ := τ) xs.length Pv h0 (fun D i H' hi p => ?_) (fun D H' hD p => ?_)⟩
  · obtain ⟨a', vs', e', s', q'⟩ := lst_sq (hl D i H' p)
    obtain rfl : a = a' := by rw [e] at e'; exact V.ref.inj e'
    obtain ⟨u, hu, ru⟩ := pr_get q' (List.getElem?_eq_getElem hi)
    refine ⟨⟨vs', u, s', hu⟩, fun x H2 y => ?_⟩
    obtain ⟨rfl, y⟩ := y
    obtain rfl : x = u := Option.some.inj ((y _ s').symm.trans hu)
    exact hs D i _ _ _ (List.getElem?_eq_getElem hi) ru p
  · obtain ⟨a', vs', e', s', q'⟩ := lst_sq (hl D _ H' p)
    obtain rfl : a = a' := by rw [e] at e'; exact V.ref.inj e'
    exact ⟨⟨vs', s', by rw [pr_len q']; exact Nat.le_refl _⟩, hd D H' hD p⟩
theorem kc_tup {xs : List β} (r : (yTupL υ).rep K H F v xs) (Pv : Addr → Nat → Hp → Prop) (h0 : ∀ D H', H D = none → Chg [] H H' → (yLst τ).rep K H' [D] (.ref D) [] → Pv D 0 H') (hl : ∀ D i H', Pv D i H' → (yTupL υ).rep K H' F v xs)
    (hs : ∀ D (i : Nat) (x : β) (u : V) H', xs[i]? = some x → υ.rep K H' [] u x → Pv D i H' → TurnG g tt te ws σ D (Pv D (i + 1)) u H') (hd : ∀ D H', H D = none → Pv D xs.length H' → Q (.ref D) H') :
    ∃ a, v = .ref a ∧ (∃ xs, SqT K H a xs) ∧ CompG (Itt K a) g tt te ws σ H Q := by
  obtain ⟨a, vs, e, s, q⟩ := tupl_sq r
  refine ⟨a, e, ⟨vs, s⟩, comp_by (K := K) (τ := τ) xs.length Pv h0 (fun D i H' hi p => ?_) (fun D H' hD p => ?_)⟩
  · obtain ⟨a', vs', e', s', q'⟩ := tupl_sq (hl D i H' p)
    obtain rfl : a = a' := by rw [e] at e'; exact V.ref.inj e'
    obtain ⟨u, hu, ru⟩ := pr_get q' (List.getElem?_eq_getElem hi)
    refine ⟨⟨vs', u, s', hu⟩, fun x H2 y => ?_⟩
    obtain ⟨rfl, y⟩ := y
    obtain rfl : x = u := Option.some.inj ((y _ s').symm.trans hu)
    exact hs D i _ _ _ (List.getElem?_eq_getElem hi) ru p
  · obtain ⟨a', vs', e', s', q'⟩ := tupl_sq (hl D _ H' p)
    obtain rfl : a = a' := by rw [e] at e'; exact V.ref.inj e'
    exact ⟨⟨vs', s', by rw [pr_len q']; exact Nat.le_refl _⟩, hd D H' hD p⟩
theorem kc_rng {lo hi : Int} (Pv : Addr → Nat → Hp → Prop) (h0 : ∀ D H', H D = none → Chg [] H H' → (yLst τ).rep K H' [D] (.ref D) [] → Pv D 0 H')
    (hs : ∀ D (i : Nat) (x : Int) H', (Mi.rng lo hi)[i]? = some x → Pv D i H' → TurnG g tt te ws σ D (Pv D (i + 1)) (.int x) H') (hd : ∀ D H', H D = none → Pv D (Mi.rng lo hi).length H' → Q (.ref D) H') :
    CompG (Itr lo (hi - lo).toNat) g tt te ws σ H Q := by
  refine comp_by (K := K) (τ := τ) (hi - lo).toNat Pv h0 (fun D i H' hi' p => ⟨hi', fun x H2 y => ?_⟩) (fun D H' hD p => ⟨Nat.le_refl _, hd D H' hD (by rw [rng_len]; exact p)⟩)
  obtain ⟨rfl, rfl⟩ := y
  exact hs D i _ _ (rng_at hi') p
theorem kc_rng1 {hi : Int} {xs : List Int} (hg : Mi.rngO 0 hi = some xs) (Pv : Addr → Nat → Hp → Prop) (h0 : ∀ D H', H D = none → Chg [] H H' → (yLst τ).rep K H' [D] (.ref D) [] → Pv D 0 H')
    (hs : ∀ D (i : Nat) (x : Int) H', xs[i]? = some x → Pv D i H' → TurnG g tt te ws σ D (Pv D (i + 1)) (.int x) H') (hd : ∀ D H', H D = none → Pv D xs.length H' → Q (.ref D) H') :
    ∃ j : Int, [V.int hi] = [.int j] ∧ -(2 ^ 62) ≤ j ∧ j < 2 ^ 62 ∧ CompG (Itr 0 j.toNat) g tt te ws σ H Q := by
  obtain ⟨rfl, _, h1, h2⟩ := rngO_some hg
  refine ⟨hi, rfl, by omega, by omega, ?_⟩
  have e : hi.toNat = (hi - 0).toNat := by rw [Int.sub_zero]
  rw [e]
  exact kc_rng (K := K) (τ := τ) Pv h0 hs hd
theorem kc_rng2 {lo hi : Int} {xs : List Int} (hg : Mi.rngO lo hi = some xs) (Pv : Addr → Nat → Hp → Prop) (h0 : ∀ D H', H D = none → Chg [] H H' → (yLst τ).rep K H' [D] (.ref D) [] → Pv D 0 H')
    (hs : ∀ D (i : Nat) (x : Int) H', xs[i]? = some x → Pv D i H' → TurnG g tt te ws σ D (Pv D (i + 1)) (.int x) H') (hd : ∀ D H', H D = none → Pv D xs.length H' → Q (.ref D) H') :
    ∃ i j : Int, [V.int lo, V.int hi] = [.int i, .int j] ∧ (-(2 ^ 62) ≤ i ∧ i < 2 ^ 62 ∧ -(2 ^ 62) ≤ j ∧ j < 2 ^ 62) ∧ CompG (Itr i (j - i).toNat) g tt te ws σ H Q := by
  obtain ⟨rfl, h1, h2⟩ := rngO_some hg
  exact ⟨lo, hi, rfl, by omega, kc_rng (K := K) (τ := τ) Pv h0 hs hd⟩
/-- the item is put to the new list -/
theorem e_app {D : Addr} {N : Hp → Prop} {xs ys : List α} {d : α} (r : (yLst τ).rep K H [D] (.ref D) xs) (ru : τ.rep K H [] u d) (hm : Mi.app xs d = some ys) (k : ∀ H', Chg [D] H H' → (yLst τ).rep K H' [D] (.ref D) ys → N H') :
    AppG D N u H := by
  obtain ⟨p, vs, e, f, g, q⟩ := r
  obtain rfl : D = p := V.ref.inj e
  unfold Mi.app at hm
  split at hm
  · rename_i hz
    cases hm
    have c : Chg [D] H (upd H D (.lst (vs ++ [u]))) := Chg.wr g (fun z => z)
    exact ⟨vs, g, Nat.lt_of_lt_of_le (by rw [pr_len q]; exact hz) line_big, k _ c ⟨D, _, rfl, rfl, upd_same, pr_app (Paired.mapP q fun _ _ z => Ty.fz z c) (.cons (Ty.fz ru c) .nil)⟩⟩
  · cases hm
/-! ### + of lists, slices, list(..), tuple(..) -/
theorem w_cat {xs ys zs : List α} (r : (yLst τ).rep K H F1 v xs) (q : (yLst τ).rep K H F2 u ys) (hm : Mi.cat xs ys = some zs) (k : ∀ p H', H p = none → Chg [] H H' → (yLst τ).rep K H' [p] (.ref p) zs → Q (.ref p) H') : rCat v u H Q := by
  obtain ⟨p, vs, rfl, rfl, g, r1⟩ := r
  obtain ⟨p2, us, rfl, rfl, g2, r2⟩ := q
  unfold Mi.cat at hm
  split at hm
  · rename_i hz
    cases hm
    refine ⟨p, p2, vs, us, rfl, rfl, g, g2, sz (by rw [pr_len r1, pr_len r2]; exact hz), fun n nn => k n _ nn (Chg.new nn) ⟨n, _, rfl, rfl, upd_same, ?_⟩⟩
    exact Paired.mapP (pr_app r1 r2) fun _ _ z => Ty.ex z (Chg.new nn)
  · cases hm
theorem w_sl {r : V → Option Int → Option Int → Hp → VK → Prop} {tl th : TO} (h : te σ H fun x H1 => tl σ H1 fun l H2 => th σ H2 fun u H3 => r x l u H3 Q) : tSl r te tl th σ H Q := h
theorem w_pon {Q : Option Int → Hp → Prop} (h : Q none H) : tNoPart σ H Q := h
theorem w_pos {Q : Option Int → Hp → Prop} (h : te σ H fun x H1 => ∃ i, x = .int i ∧ Q (some i) H1) : tPart te σ H Q := h
theorem sl_l {X : Cx} {K : PySem.W.Frag} (e : X.K = K := by rfl) : SlR X (rSlL K) := by subst e; exact sl_list
theorem cut_eq {α : Type} (xs : List α) (lo hi : Option Int) : (xs.drop (HT.sIx xs.length 0 lo)).take (HT.sIx xs.length xs.length hi - HT.sIx xs.length 0 lo) = Mi.cut xs lo hi := by
  have e : ∀ n d o, HT.sIx n d o = Mi.sIx n d o := fun n d o => by cases o <;> rfl
  unfold Mi.cut
  rw [e, e]
theorem pr_cut {R : V → α → Prop} {vs : List V} {xs : List α} (r : Paired R vs xs) (lo hi : Option Int) : Paired R (cutV vs lo hi) (Mi.cut xs lo hi) := by
  rw [← cut_eq]
  unfold cutV
  rw [pr_len r]
  exact pr_take _ (pr_drop _ r)
theorem w_cutL {xs : List α} {lo hi : Option Int} (r : (yLst τ).rep K H F v xs) (k : ∀ p H', H p = none → Chg [] H H' → (yLst τ).rep K H' [p] (.ref p) (Mi.cut xs lo hi) → Q (.ref p) H') : rSlL K v lo hi H Q := by
  obtain ⟨p, vs, rfl, s, q⟩ := lst_sq r
  refine ⟨p, vs, rfl, s, fun n nn => k n _ nn (Chg.new nn) ⟨n, _, rfl, rfl, upd_same, ?_⟩⟩
  exact Paired.mapP (pr_cut q lo hi) fun _ _ z => Ty.ex z (Chg.new nn)
def rListQ (K : PySem.W.Frag) : List V → Hp → VK → Prop := fun xs H Q => ∃ p ys, xs = [.ref p] ∧ (SqL K H p ys ∨ SqT K H p ys) ∧ ∀ l, H l = none → Q (.ref l) (upd H l (.lst ys))
def rTupleQ (K : PySem.W.Frag) : List V → Hp → VK → Prop := fun xs H Q => ∃ p ys, xs = [.ref p] ∧ ((SqL K H p ys ∧ ∀ l, H l = none → Q (.ref l) (upd H l (.tup ys))) ∨ (SqT K H p ys ∧ Q (.ref p) H))
theorem cl_list {X : Cx} {K : PySem.W.Frag} (e : X.K = K := by rfl) : CallR X (.type "list") (rListQ K) := by subst e; exact call_list_of
theorem cl_tuple {X : Cx} {K : PySem.W.Frag} (e : X.K = K := by rfl) : CallR X (.type "tuple") (rTupleQ K) := by subst e; exact call_tuple_of
theorem w_listL {xs : List α} (r : (yLst τ).rep K H F v xs) (k : ∀ p H', H p = none → Chg [] H H' → (yLst τ).rep K H' [p] (.ref p) xs → Q (.ref p) H') : rListQ K [v] H Q := by
  obtain ⟨p, vs, rfl, s, q⟩ := lst_sq r
  exact ⟨p, vs, rfl, .inl s, fun n nn => k n _ nn (Chg.new nn) ⟨n, _, rfl, rfl, upd_same, Paired.mapP q fun _ _ z => Ty.ex z (Chg.new nn)⟩⟩
theorem w_listT {xs : List α} (r : (yTupL τ).rep K H F v xs) (k : ∀ p H', H p = none → Chg [] H H' → (yLst τ).rep K H' [p] (.ref p) xs → Q (.ref p) H') : rListQ K [v] H Q := by
  obtain ⟨p, vs, rfl, s, q⟩ := tupl_sq r
  exact ⟨p, vs, rfl, .inr s, fun n nn => k n _ nn (Chg.new nn) ⟨n, _, rfl, rfl, upd_same, Paired.mapP q fun _ _ z => Ty.ex z (Chg.new nn)⟩⟩
theorem w_tupleL {xs : List α} (r : (yLst τ).rep K H F v xs) (k : ∀ v H', Chg [] H H' → (yTupL τ).rep K H' [] v xs → Q v H') : rTupleQ K [v] H Q := by
  obtain ⟨p, vs, rfl, s, q⟩ := lst_sq r
  exact ⟨p, vs, rfl, .inl ⟨s, fun n nn => k _ _ (Chg.new nn) ⟨n, _, rfl, rfl, .inl (.inl upd_same), Paired.mapP q fun _ _ z => Ty.ex z (Chg.new nn)⟩⟩⟩
theorem w_tupleT {xs : List α} (r : (yTupL τ).rep K H F v xs) (k : ∀ v H', Chg [] H H' → (yTupL τ).rep K H' [] v xs → Q v H') : rTupleQ K [v] H Q := by
  obtain ⟨p, vs, rfl, s, q⟩ := tupl_sq r
  exact ⟨p, vs, rfl, .inr ⟨s, k _ _ (Chg.refl H) ⟨p, vs, rfl, rfl, s, q⟩⟩⟩
/-! ### in -/
theorem op_in_q {X : Cx} {K : PySem.W.Frag} (e : X.K = K := by rfl) : OpR X (compareOp .In) (rIn K false) := by subst e; exact op_in_seq
theorem op_ni_q {X : Cx} {K : PySem.W.Frag} (e : X.K = K := by rfl) : OpR X (compareOp .NotIn) (rIn K true) := by subst e; exact op_notIn_seq
theorem flat_ints (ns : List Int) : (ns.map V.int).all flatV = true := by
  rw [List.all_eq_true]
  intro x hx
  obtain ⟨n, _, rfl⟩ := List.mem_map.mp hx
  rfl
theorem in_ints (n : Int) : ∀ ns : List Int, inV (.int n) (ns.map V.int) = ns.contains n
  | [] => rfl
  | m :: ns => by
    have ih := in_ints n ns
    unfold inV at ih ⊢
    rw [List.map_cons, List.any_cons, List.contains_cons, ih]
    congr 1
    show (m == n) = (n == m)
    by_cases h : m = n
    · subst h; rfl
    · rw [beq_eq_false_iff_ne.mpr h, beq_eq_false_iff_ne.mpr (Ne.symm h)]
theorem ints_sqL {xs : List Int} (r : (yLst yInt).rep K H F v xs) : ∃ a, v = .ref a ∧ SqL K H a (xs.map V.int) := by
  obtain ⟨a, vs, e, s, q⟩ := lst_sq r
  rw [ints_of q] at s
  exact ⟨a, e, s⟩
theorem ints_sqT {xs : List Int} (r : (yTupL yInt).rep K H F v xs) : ∃ a, v = .ref a ∧ SqT K H a (xs.map V.int) := by
  obtain ⟨a, vs, e, s, q⟩ := tupl_sq r
  rw [ints_of q] at s
  exact ⟨a, e, s⟩
theorem w_inL {xs : List Int} (r : (yLst yInt).rep K H F v xs) (k : Q (.bl (xs.contains i)) H) : rIn K false (.int i) v H Q := by
  obtain ⟨a, rfl, s⟩ := ints_sqL r
  exact ⟨a, _, rfl, .inl s, rfl, flat_ints xs, by rw [if_neg Bool.false_ne_true, in_ints]; exact k⟩
theorem w_niL {xs : List Int} (r : (yLst yInt).rep K H F v xs) (k : Q (.bl (!xs.contains i)) H) : rIn K true (.int i) v H Q := by
  obtain ⟨a, rfl, s⟩ := ints_sqL r
  exact ⟨a, _, rfl, .inl s, rfl, flat_ints xs, by rw [if_pos rfl, in_ints]; exact k⟩
theorem w_inT {xs : List Int} (r : (yTupL yInt).rep K H F v xs) (k : Q (.bl (xs.contains i)) H) : rIn K false (.int i) v H Q := by
  obtain ⟨a, rfl, s⟩ := ints_sqT r
  exact ⟨a, _, rfl, .inr s, rfl, flat_ints xs, by rw [if_neg Bool.false_ne_true, in_ints]; exact k⟩
theorem w_niT {xs : List Int} (r : (yTupL yInt).rep K H F v xs) (k : Q (.bl (!xs.contains i)) H) : rIn K true (.int i) v H Q := by
  obtain ⟨a, rfl, s⟩ := ints_sqT r
  exact ⟨a, _, rfl, .inr s, rfl, flat_ints xs, by rw [if_pos rfl, in_ints]; exact k⟩
theorem val_inL {xs : List Int} (r : (yLst yInt).rep K H F v xs) (ha : Val ta σ H (.int i)) (hb : Val tb σ H v) : Val (tOp (rIn K false) ta tb) σ H (.bl (xs.contains i)) := val_op ha hb fun Q q => w_inL r q
theorem val_niL {xs : List Int} (r : (yLst yInt).rep K H F v xs) (ha : Val ta σ H (.int i)) (hb : Val tb σ H v) : Val (tOp (rIn K true) ta tb) σ H (.bl (!xs.contains i)) := val_op ha hb fun Q q => w_niL r q
theorem val_inT {xs : List Int} (r : (yTupL yInt).rep K H F v xs) (ha : Val ta σ H (.int i)) (hb : Val tb σ H v) : Val (tOp (rIn K false) ta tb) σ H (.bl (xs.contains i)) := val_op ha hb fun Q q => w_inT r q
theorem val_niT {xs : List Int} (r : (yTupL yInt).rep K H F v xs) (ha : Val ta σ H (.int i)) (hb : Val tb σ H v) : Val (tOp (rIn K true) ta tb) σ H (.bl (!xs.contains i)) := val_op ha hb fun Q q => w_niT r q
end
end G

namespace G
open PySem PySem.Spec PyProof.Rows L2
/-! ### instances -/
theorem lookup_zip {f : Str} : ∀ {ns : List Str} {vs : List V} {n : Nat} {u : V}, ns.Nodup → ns[n]? = some f → vs[n]? = some u → (ns.zip vs).lookup f = some u
  | [], _, _, _, _, h, _ => by simp at h
  | _ :: _, [], _, _, _, _, h => by simp at h
  | m :: ns, w :: vs, 0, u, nd, h, h2 => by
    obtain rfl : m = f := by simpa using h
    obtain rfl : w = u := by simpa using h2
    simp [List.lookup]
  | m :: ns, w :: vs, n + 1, u, nd, h, h2 => by
    have hne : (f == m) = false := by
      rw [beq_eq_false_iff_ne]
      intro e
      subst e
      have h3 : ns[n]? = some f := by simpa using h
      exact (List.nodup_cons.mp nd).1 (List.mem_of_getElem? h3)
    rw [List.zip_cons_cons]
    simp only [List.lookup, hne]
    exact lookup_zip (List.nodup_cons.mp nd).2 (by simpa using h) (by simpa using h2)
def yObj {α : Type} (C : Addr) (ns : List Str) (ts : Tys α) : Ty α where
  rep K H F v d := F = [] ∧ ∃ a dx vs, v = .ref a ∧ H a = some (.ins C dx (ns.zip vs)) ∧ done (ns.zip vs) = true ∧ ts.rep K H [] vs d
  keep {K H H' F v d} h k := by
    obtain ⟨e, a, dx, vs, e2, g, f, r⟩ := h
    exact ⟨e, a, dx, vs, e2, k a _ g (.inr f), f, ts.keep r fun b o hb z => k b o hb (z.elim (fun y => nomatch y) .inr)⟩
  dom {K H F v d} h b m := by rw [h.1] at m; cases m
/-- an instance that its __init__ has begun: the attributes ns hold the values ws -/
def yPart (C dx : Addr) (ns : List Str) : Ty (List V) where
  rep K H F v ws := ∃ x, v = .ref x ∧ F = [x] ∧ H x = some (.ins C dx (ns.zip ws)) ∧ done (ns.zip ws) = false
  keep {K H H' F v ws} h k := by
    obtain ⟨x, e, rfl, g, f⟩ := h
    exact ⟨x, e, rfl, k x _ g (.inl (List.mem_singleton.mpr rfl)), f⟩
  dom {K H F v ws} h b m := by
    obtain ⟨x, e, rfl, g, f⟩ := h
    rw [List.mem_singleton] at m; subst m
    exact ⟨_, g, fun z => by have z' : done _ = true := z; rw [f] at z'; cases z'⟩
section
variable {K : PySem.W.Frag} {σ σ' : L2.St} {H : Hp} {F : List Addr} {ta tb te tv : TE} {v u x y w : V} {α β : Type} {τ : Ty α} {Q : VK} {D : Ends} {t1 t2 : TS} {C dx p : Addr} {ns : List Str} {f : Str}
theorem fz_obj {ts : Tys α} : Fz (yObj C ns ts) := fun h => h.1
theorem nn_obj {ts : Tys α} {d : α} (r : (yObj C ns ts).rep K H F v d) : v ≠ .non := by obtain ⟨_, a, _, _, rfl, _⟩ := r; exact fun z => nomatch z
/-- o.f: what is asked of the value o -/
def FldG (K : PySem.W.Frag) (f : Str) (x : V) (H : Hp) (Q : VK) : Prop := ∃ a C dx fs v, x = .ref a ∧ H a = some (.ins C dx fs) ∧ Cls K C ∧ NoAttr K C f ∧ fs.lookup f = some v ∧ Q v H
theorem w_fld (h : ta σ H fun x H1 => FldG K f x H1 Q) : tFld K ta f σ H Q := h
theorem fld_obj {ts : Tys α} {n : Nat} {υ : Ty β} {pr : α → β} {d : α} (A : At ts n υ pr) (nd : ns.Nodup) (hn : ns[n]? = some f) (c : Cls K C) (na : NoAttr K C f) (r : (yObj C ns ts).rep K H F v d) :
    ∃ u, υ.rep K H [] u (pr d) ∧ (∀ {Q : VK}, Q u H → FldG K f v H Q) ∧ ∀ {σ : L2.St} {ta : TE}, Val ta σ H v → Val (tFld K ta f) σ H u := by
  obtain ⟨_, a, dx, vs, rfl, g, _, rs⟩ := r
  obtain ⟨u, F1, e, ru, sub⟩ := A rs
  have e1 : F1 = [] := by
    cases F1 with
    | nil => rfl
    | cons z zs => exact nomatch sub z (List.mem_cons_self ..)
  subst e1
  have k : ∀ {Q : VK}, Q u H → FldG K f (.ref a) H Q := fun q => ⟨a, C, dx, _, u, rfl, g, c, na, lookup_zip nd hn e, q⟩
  exact ⟨u, ru, k, fun ha Q q => ha _ (k q)⟩
theorem fld_part {ws : List V} {n : Nat} (nd : ns.Nodup) (hn : ns[n]? = some f) (hw : ws[n]? = some u) (c : Cls K C) (na : NoAttr K C f) (r : (yPart C dx ns).rep K H F v ws) (ha : Val ta σ H v) : Val (tFld K ta f) σ H u := by
  obtain ⟨a, rfl, _, g, _⟩ := r
  exact fun Q q => ha _ ⟨a, C, dx, _, u, rfl, g, c, na, lookup_zip nd hn hw, q⟩
/-- self.f = e -/
def SFldG (K : PySem.W.Frag) (f : Str) (y x : V) (H : Hp) (X : Hp → Prop) : Prop := ∃ a C dx fs, x = .ref a ∧ H a = some (.ins C dx fs) ∧ Cls K C ∧ NoAttr K C f ∧ fs.length < 1000 ∧ X (upd H a (.ins C dx (putF f y fs)))
theorem q_fld (h : tv σ H fun y H1 => ta σ H1 fun x H2 => SFldG K f y x H2 (t2 D σ)) : tSeq (sFld K ta tv f) t2 D σ H := h
theorem putF_zip {f : Str} {y : V} : ∀ {ns : List Str} {ws : List V}, f ∉ ns → ns.length = ws.length → putF f y (ns.zip ws) = (ns ++ [f]).zip (ws ++ [y])
  | [], [], _, _ => rfl
  | [], _ :: _, _, h => by simp at h
  | _ :: _, [], _, h => by simp at h
  | m :: ns, w :: ws, hf, h => by
    have hne : f ≠ m := fun e => hf (by rw [e]; exact List.mem_cons_self ..)
    have ih := putF_zip (f := f) (y := y) (ns := ns) (ws := ws) (fun z => hf (List.mem_cons_of_mem _ z)) (by simpa using h)
    rw [List.zip_cons_cons]
    show putF f y ((m, w) :: ns.zip ws) = _
    unfold putF
    split
    · rename_i e
      exact absurd (by simpa using e) (by first | exact hne | exact (Ne.symm hne))
    · rw [ih]; rfl
theorem m_fldP {ws : List V} {X : Hp → Prop} (r : (yPart C dx ns).rep K H F v ws) (c : Cls K C) (na : NoAttr K C f) (hf : f ∉ ns) (hl : ns.length = ws.length) (hs : ns.length < 900) (hd : done ((ns ++ [f]).zip (ws ++ [y])) = false)
    (k : ∀ H', Chg F H H' → (yPart C dx (ns ++ [f])).rep K H' F v (ws ++ [y]) → X H') : SFldG K f y v H X := by
  obtain ⟨a, rfl, rfl, g, nf⟩ := r
  have cc : Chg [a] H (upd H a (.ins C dx (putF f y (ns.zip ws)))) := Chg.wr g (fun z => by have z' : done _ = true := z; rw [nf] at z'; cases z')
  refine ⟨a, C, dx, _, rfl, g, c, na, by rw [List.length_zip, ← hl]; omega, k _ cc ⟨a, rfl, rfl, ?_, hd⟩⟩
  rw [upd_same, putF_zip hf hl]
theorem m_fldE {ws : List V} {X : Hp → Prop} {ts : Tys α} {d : α} (r : (yPart C dx ns).rep K H F v ws) (c : Cls K C) (na : NoAttr K C f) (hf : f ∉ ns) (hl : ns.length = ws.length) (hs : ns.length < 900) (hd : done ((ns ++ [f]).zip (ws ++ [y])) = true)
    (rs : ts.rep K H [] (ws ++ [y]) d) (k : ∀ H', Chg F H H' → (yObj C (ns ++ [f]) ts).rep K H' [] v d → X H') : SFldG K f y v H X := by
  obtain ⟨a, rfl, rfl, g, nf⟩ := r
  have cc : Chg [a] H (upd H a (.ins C dx (putF f y (ns.zip ws)))) := Chg.wr g (fun z => by have z' : done _ = true := z; rw [nf] at z'; cases z')
  refine ⟨a, C, dx, _, rfl, g, c, na, by rw [List.length_zip, ← hl]; omega, k _ cc ⟨rfl, a, dx, _, rfl, ?_, hd, ts.keep rs fun b o hb z => cc.keep b o hb (z.elim (fun y => nomatch y) .inr)⟩⟩
  rw [upd_same, putF_zip hf hl]
/-- C(..): the new instance -/
def MakeG (C : Addr) (sp : Sp) (E : XK) (vs : V → List V) (H : Hp) (Q : VK) : Prop := ∀ x dx, H x = none → H dx = none → dx ≠ x → sp (vs (.ref x)) (upd (upd H dx (.own x)) x (.ins C dx [])) (fun v H3 => v = .non ∧ Q (.ref x) H3) E
theorem make_new {x : Addr} (nx : H x = none) (nd : H dx = none) (ne : dx ≠ x) : Chg [] H (upd (upd H dx (.own x)) x (.ins C dx [])) ∧ (yPart C dx []).rep K (upd (upd H dx (.own x)) x (.ins C dx [])) [x] (.ref x) [] :=
  ⟨(Chg.new nd).trans (Chg.new (by rw [upd_ne (Ne.symm ne)]; exact nx)), x, rfl, rfl, upd_same, rfl⟩
theorem tInt_tup {d : Int} : True := trivial
end
end G
namespace G
open PySem PySem.Spec PyProof.Rows L2
/-- what the top leaves of a class -/
structure Tx (K : PySem.W.Frag) (mg : Str → Option Value) (C : Addr) (x : Str) (ns : List Str) : Prop where
  cls : Cls K C
  mgC : mg x = some (.ref C)
  na : ∀ f ∈ ns, NoAttr K C f
structure CalM (P : Program) (w : World) (K : PySem.W.Frag) (mg : Str → Option Value) (C : Addr) (m : Str) (ps : List Str) (k : Nat) (sp : Sp) : Prop where
  ex : ∃ f fd, Meth K C m f ∧ (∀ (s : Shared) (us : List Value), us.length = ps.length → BindsTo s fd ⟨us, []⟩ (ps.zip us)) ∧ ∀ base : Heap, FnOk P w K mg base CX0 k f fd ps sp
structure CalI (P : Program) (w : World) (K : PySem.W.Frag) (mg : Str → Option Value) (C : Addr) (qual : Str) (st : Stmt) (kws : List (Str × V)) (ps : List Str) (k : Nat) (sp : Sp) : Prop where
  ex : ∃ f fd, Mk K C f ∧ FunD K "__init__" qual (defArgs st) (defBody st) (defScope st) [] kws f fd ∧ ∀ base : Heap, FnOk P w K mg base CX0 k f fd ps sp
structure DfnM (K : PySem.W.Frag) (C : Addr) (m qual : Str) (st : Stmt) : Prop where
  ex : ∃ f fd, Fun K m qual st f fd ∧ Meth K C m f
structure DfnI (K : PySem.W.Frag) (C : Addr) (qual : Str) (st : Stmt) (kws : List (Str × V)) : Prop where
  ex : ∃ f fd, FunD K "__init__" qual (defArgs st) (defBody st) (defScope st) [] kws f fd ∧ Mk K C f
section
variable {X : Cx} {K : PySem.W.Frag} {σ : L2.St} {H : Hp} {F : List Addr} {ta te : TE} {v : V} {α : Type} {Q : VK} {C : Addr} {ns : List Str} {m : Str}
def MethG (C : Addr) (m : Str) (x : V) (H : Hp) (R : Prop) : Prop := ∃ a dx fs, x = .ref a ∧ H a = some (.ins C dx fs) ∧ fs.lookup m = none ∧ R
theorem w_meth {sp : Sp} {E : XK} {ts : TA} (h : ta σ H fun x H1 => MethG C m x H1 (ts σ H1 fun vs H2 => sp (x :: (vs ++ [])) H2 Q E)) : tMeth C m sp [] E ta ts σ H Q := h
theorem lookup_none {f : Str} : ∀ {ns : List Str} {vs : List V}, f ∉ ns → (ns.zip vs).lookup f = none
  | [], _, _ => rfl
  | _ :: _, [], _ => rfl
  | m :: ns, w :: vs, h => by
    have hne : (f == m) = false := by
      rw [beq_eq_false_iff_ne]
      exact fun e => h (by rw [e]; exact List.mem_cons_self ..)
    rw [List.zip_cons_cons]
    simp only [List.lookup, hne]
    exact lookup_none fun z => h (List.mem_cons_of_mem _ z)
theorem meth_obj {ts : Tys α} {d : α} {R : Prop} (r : (yObj C ns ts).rep K H F v d) (hm : m ∉ ns) (k : R) : MethG C m v H R := by
  obtain ⟨_, a, dx, vs, rfl, g, _, _⟩ := r
  exact ⟨a, dx, _, rfl, g, lookup_none hm, k⟩
theorem w_makeK {n k : Nat} {sp : Sp} {gV : List V → List V → List V} {E : XK} {t tk : TA} (h : t σ H fun vs H1 => tk σ H1 fun zs H2 => vs.length = n ∧ zs.length = k ∧ MakeG C sp E (fun x => gV (x :: vs) zs) H2 Q) : tMakeK C n k sp gV E t tk σ H Q := h
theorem w_mk {sp : Sp} {E : XK} {t : TA} {dvs : List V} (h : t σ H fun vs H1 => MakeG C sp E (fun x => x :: (vs ++ dvs)) H1 Q) : tMake C sp dvs E t σ H Q := h
theorem pe_cm {ps : List Str} {j k : Nat} {sp : Sp} {pl : Sem Bool} {apos pos : Pos} {o e : Expr} {es : List Expr} {t : TA} (he : PE X o ta) (c : Cls X.K C) (M : CalM X.prog X.w X.K X.mg C m ps j sp) (hr : Room k X.A) (ha : PA X (e :: es) t) (hj : j ≤ k := by decide)
    (h1 : ∀ {f : Addr} {fd : FuncData}, FnOk X.prog X.w X.K X.mg X.base CX0 j f fd ps sp → Meth X.K C m f → Binds X.K fd ps [] → Room j X.A → PE X (.Call (.Attribute o m apos) (e :: es) [] pos) (tMeth C m sp [] E0 ta t)) : PE X (.Call (.Attribute o m apos) (e :: es) [] pos) (tMeth C m sp [] E0 ta t) := by
  obtain ⟨f, fd, hm, b, F⟩ := M.ex
  exact h1 (F X.base) hm (fun s us _ hl => by rw [List.append_nil] at hl ⊢; exact b s us hl) (hr.mono hj)
end
end G

namespace G
open PySem PySem.Spec PyProof.Rows L2
section
variable {K : PySem.W.Frag} {σ σ' : L2.St} {H : Hp} {F F1 F2 Fu : List Addr} {ta tb te : TE} {v u x y : V} {i j : Int} {t tu tt : TT} {b c a : Bool} {α β : Type} {τ : Ty α} {υ : Ty β} {Q : VK} {D : Ends} {t1 t2 : TS} {g : TG} {ws : List Nat}
/-! ### shifts -/
theorem shlC {i j r : Int} (h : Mi.shl i j = some r) : CPow i j ∧ i * 2 ^ j.toNat = r := by
  unfold Mi.shl at h
  split at h
  · rename_i hc
    exact ⟨⟨hc.1, by omega, by omega⟩, Option.some.inj h⟩
  · cases h
theorem shrC {i j r : Int} (h : Mi.shr i j = some r) : 0 ≤ j ∧ i / 2 ^ j.toNat = r := by
  unfold Mi.shr at h
  split at h
  · exact ⟨by assumption, Option.some.inj h⟩
  · cases h
theorem val_shlO {r : Int} (ha : Val ta σ H (.int i)) (hb : Val tb σ H (.int j)) (h : Mi.shl i j = some r) : Val (tOp (rI CPow fun i j => .int (i * 2 ^ j.toNat)) ta tb) σ H (.int r) := val_is (val_I (g := fun i j => .int (i * 2 ^ j.toNat)) ha hb (shlC h).1) (by rw [← (shlC h).2])
theorem val_shrO {r : Int} (ha : Val ta σ H (.int i)) (hb : Val tb σ H (.int j)) (h : Mi.shr i j = some r) : Val (tOp (rI (fun _ j => 0 ≤ j) fun i j => .int (i / 2 ^ j.toNat)) ta tb) σ H (.int r) := val_is (val_I (g := fun i j => .int (i / 2 ^ j.toNat)) ha hb (shrC h).1) (by rw [← (shrC h).2])
theorem w_shl {r : Int} (h : Mi.shl i j = some r) (k : Q (.int r) H) : rI CPow (fun i j => .int (i * 2 ^ j.toNat)) (.int i) (.int j) H Q := ⟨i, j, rfl, rfl, (shlC h).1, by show Q (.int (i * 2 ^ j.toNat)) H; rw [(shlC h).2]; exact k⟩
theorem w_shr {r : Int} (h : Mi.shr i j = some r) (k : Q (.int r) H) : rI (fun _ j => 0 ≤ j) (fun i j => .int (i / 2 ^ j.toNat)) (.int i) (.int j) H Q := ⟨i, j, rfl, rfl, (shrC h).1, by show Q (.int (i / 2 ^ j.toNat)) H; rw [(shrC h).2]; exact k⟩
/-! ### sorted -/
theorem cl_sortedL {X : Cx} {K : PySem.W.Frag} (e : X.K = K := by rfl) : CallR X (.builtin "sorted") (rSortedI K) := by subst e; exact cr_sortedI
theorem sortI_perm (xs : List Int) : (Mi.sortI xs).Perm xs := List.mergeSort_perm _ _
theorem sortI_sorted (xs : List Int) : (Mi.sortI xs).Pairwise (· ≤ ·) := by
  have h := List.pairwise_mergeSort (le := fun a b : Int => decide (a ≤ b)) (fun a b c h1 h2 => by simp at *; omega) (fun a b => by simp; omega) xs
  exact List.Pairwise.imp (fun h => by simpa using h) h
theorem sorted_unique : ∀ {xs ys : List Int}, xs.Perm ys → xs.Pairwise (· ≤ ·) → ys.Pairwise (· ≤ ·) → xs = ys
  | [], ys, p, _, _ => (List.Perm.nil_eq p)
  | x :: xs, [], p, _, _ => absurd p.length_eq (by simp)
  | x :: xs, y :: ys, p, h1, h2 => by
    have hx := List.pairwise_cons.mp h1
    have hy := List.pairwise_cons.mp h2
    have e : x = y := by
      have a1 : y ∈ x :: xs := p.mem_iff.mpr (List.mem_cons_self ..)
      have a2 : x ∈ y :: ys := p.mem_iff.mp (List.mem_cons_self ..)
      rcases List.mem_cons.mp a1 with r | r
      · exact r.symm
      · rcases List.mem_cons.mp a2 with q | q
        · exact q
        · have := hx.1 y r
          have := hy.1 x q
          omega
    subst e
    rw [sorted_unique (List.Perm.cons_inv p) hx.2 hy.2]
theorem w_sortedL {xs : List Int} (r : (yLst yInt).rep K H F v xs) (k : ∀ p H', H p = none → Chg [] H H' → (yLst yInt).rep K H' [p] (.ref p) (Mi.sortI xs) → Q (.ref p) H') : rSortedI K [v] H Q := by
  obtain ⟨p, rfl, s⟩ := ints_sqL r
  refine ⟨p, xs, rfl, s, fun ns q pm so nq => ?_⟩
  rw [sorted_unique (pm.trans (sortI_perm xs).symm) so (sortI_sorted xs)]
  exact k q _ nq (Chg.new nq) ⟨q, _, rfl, rfl, upd_same, ints_mk _⟩
/-! ### sets of ints -/
def ySet (w : World) : Ty (List Int) where
  rep K H F v xs := ∃ a, v = .ref a ∧ F = [a] ∧ H a = some (SetO w a (fun i => xs.contains i) xs.length)
  keep {K H H' F v xs} h k := by
    obtain ⟨a, e, rfl, g⟩ := h
    exact ⟨a, e, rfl, k a _ g (.inl (List.mem_singleton.mpr rfl))⟩
  dom {K H F v xs} h b m := by
    obtain ⟨a, e, rfl, g⟩ := h
    rw [List.mem_singleton] at m; subst m
    exact ⟨_, g, fun z => z⟩
theorem cl_set0 {X : Cx} {w : World} (e : X.w = w := by rfl) : CallR X (.type "set") (rSet0 w) := by subst e; exact cr_set0
theorem w_set0 {w : World} (k : ∀ p H', H p = none → Chg [] H H' → (ySet w).rep K H' [p] (.ref p) [] → Q (.ref p) H') : rSet0 w [] H Q := ⟨rfl, fun p np => k p _ np (Chg.new np) ⟨p, rfl, rfl, upd_same⟩⟩
theorem op_in_s {X : Cx} {w : World} (e : X.w = w := by rfl) : OpR X (compareOp .In) (rSIn w) := by subst e; exact or_sin
theorem op_ni_s {X : Cx} {w : World} (e : X.w = w := by rfl) : OpR X (compareOp .NotIn) (rSNotIn w) := by subst e; exact or_snotin
theorem w_inS {w : World} {xs : List Int} (r : (ySet w).rep K H F v xs) (k : Q (.bl (xs.contains i)) H) : rSIn w (.int i) v H Q := by
  obtain ⟨p, rfl, rfl, g⟩ := r
  exact ⟨i, p, _, _, rfl, rfl, g, k⟩
theorem w_niS {w : World} {xs : List Int} (r : (ySet w).rep K H F v xs) (k : Q (.bl (!xs.contains i)) H) : rSNotIn w (.int i) v H Q := by
  obtain ⟨p, rfl, rfl, g⟩ := r
  exact ⟨i, p, _, _, rfl, rfl, g, k⟩
theorem val_inS {w : World} {xs : List Int} (r : (ySet w).rep K H F v xs) (ha : Val ta σ H (.int i)) (hb : Val tb σ H v) : Val (tOp (rSIn w) ta tb) σ H (.bl (xs.contains i)) := val_op ha hb fun Q q => w_inS r q
theorem val_niS {w : World} {xs : List Int} (r : (ySet w).rep K H F v xs) (ha : Val ta σ H (.int i)) (hb : Val tb σ H v) : Val (tOp (rSNotIn w) ta tb) σ H (.bl (!xs.contains i)) := val_op ha hb fun Q q => w_niS r q
theorem w_sadd {w : World} {to : TE} {ts : TA} (h : to σ H fun x H1 => (∃ a S n, x = V.ref a ∧ H1 a = some (SetO w a S n)) ∧ ts σ H1 fun xs H2 => rSAdd w x xs H2 Q) : tSAdd w to ts σ H Q := h
theorem tyv_set {w : World} {xs : List Int} (r : (ySet w).rep K H F v xs) : ∃ a S n, v = V.ref a ∧ H a = some (SetO w a S n) := by
  obtain ⟨p, rfl, rfl, g⟩ := r
  exact ⟨p, _, _, rfl, g⟩
theorem m_sadd {w : World} {xs ys : List Int} (r : (ySet w).rep K H F v xs) (hm : Mi.sadd xs i = some ys) (k : ∀ H', Chg F H H' → (ySet w).rep K H' F v ys → Q .non H') : rSAdd w v [.int i] H Q := by
  obtain ⟨p, rfl, rfl, g⟩ := r
  unfold Mi.sadd at hm
  split at hm
  · rename_i hz
    obtain rfl := Option.some.inj hm
    refine ⟨p, i, _, _, rfl, rfl, g, by show xs.length + 1 < 4096; omega, ?_⟩
    refine k _ (Chg.wr g (fun z => z)) ⟨p, rfl, rfl, ?_⟩
    rw [upd_same]
    congr 1
    by_cases hc : xs.contains i = true
    · have e1 : (fun j => xs.contains j || decide (j = i)) = fun j => xs.contains j := by
        funext j
        by_cases hj : j = i
        · subst hj; rw [hc]; rfl
        · rw [decide_eq_false hj, Bool.or_false]
      rw [if_pos hc, if_pos hc]
      show SetO w p (fun j => xs.contains j || decide (j = i)) _ = _
      rw [e1]
    · rw [if_neg hc, if_neg hc]
      have e1 : (fun j => xs.contains j || decide (j = i)) = fun j => (xs ++ [i]).contains j := by
        funext j
        rw [List.contains_eq_mem, List.contains_eq_mem]
        by_cases hj : j = i
        · subst hj; simp
        · simp [hj]
      show SetO w p (fun j => xs.contains j || decide (j = i)) _ = _
      rw [e1, List.length_append]
      rfl
  · cases hm
/-! ### lists by their methods -/
theorem m_clear {xs : List α} (r : (yLst τ).rep K H F v xs) (k : ∀ H', Chg F H H' → (yLst τ).rep K H' F v [] → Q .non H') : rClear v [] H Q := by
  obtain ⟨p, vs, rfl, rfl, g, q⟩ := r
  exact ⟨p, vs, rfl, rfl, g, k _ (Chg.wr g (fun z => z)) ⟨p, [], rfl, rfl, upd_same, .nil⟩⟩
theorem pr_rev {R : V → α → Prop} : ∀ {vs : List V} {xs : List α}, Paired R vs xs → Paired R vs.reverse xs.reverse
  | _, _, .nil => .nil
  | _, _, .cons r t => by
    rw [List.reverse_cons, List.reverse_cons]
    exact pr_app (pr_rev t) (.cons r .nil)
theorem m_reverse {xs : List α} (r : (yLst τ).rep K H F v xs) (k : ∀ H', Chg F H H' → (yLst τ).rep K H' F v xs.reverse → Q .non H') : rReverse v [] H Q := by
  obtain ⟨p, vs, rfl, rfl, g, q⟩ := r
  have c : Chg [p] H (upd H p (.lst vs.reverse)) := Chg.wr g (fun z => z)
  exact ⟨p, vs, rfl, rfl, g, k _ c ⟨p, _, rfl, rfl, upd_same, Paired.mapP (pr_rev q) fun _ _ z => Ty.fz z c⟩⟩
theorem pr_dropLast {R : V → α → Prop} {vs : List V} {xs : List α} (r : Paired R vs xs) : Paired R vs.dropLast xs.dropLast := by
  rw [List.dropLast_eq_take, List.dropLast_eq_take, pr_len r]
  exact pr_take _ r
theorem pr_erase {R : V → α → Prop} {vs : List V} {xs : List α} (r : Paired R vs xs) (n : Nat) : Paired R (vs.eraseIdx n) (xs.eraseIdx n) := by
  rw [List.eraseIdx_eq_take_drop_succ, List.eraseIdx_eq_take_drop_succ]
  exact pr_app (pr_take _ r) (pr_drop _ r)
theorem m_pop {xs : List α} {p : α × List α} (r : (yLst τ).rep K H F v xs) (hm : Mi.popL xs = some p) (k : ∀ u H', Chg F H H' → τ.rep K H' [] u p.1 → (yLst τ).rep K H' F v p.2 → Q u H') : rPop v [] H Q := by
  obtain ⟨l, vs, rfl, rfl, g, q⟩ := r
  unfold Mi.popL at hm
  obtain ⟨y, hy, hm⟩ := Mi.bnd hm
  obtain rfl := Option.some.inj hm
  obtain ⟨u, hu, ru⟩ := pr_get q hy
  have c : Chg [l] H (upd H l (.lst vs.dropLast)) := Chg.wr g (fun z => z)
  exact ⟨l, vs, u, rfl, rfl, g, by rw [pr_len q]; exact hu, k u _ c (Ty.fz ru c) ⟨l, _, rfl, rfl, upd_same, Paired.mapP (pr_dropLast q) fun _ _ z => Ty.fz z c⟩⟩
theorem m_popAt {xs : List α} {p : α × List α} (r : (yLst τ).rep K H F v xs) (hm : Mi.popAt xs i = some p) (hb : xs.length ≤ Mi.big) (k : ∀ u H', Chg F H H' → τ.rep K H' [] u p.1 → (yLst τ).rep K H' F v p.2 → Q u H') : rPopAt v [.int i] H Q := by
  obtain ⟨l, vs, rfl, rfl, g, q⟩ := r
  unfold Mi.popAt at hm
  obtain ⟨j, hj, hm⟩ := Mi.bnd hm
  obtain ⟨y, hy, hm⟩ := Mi.bnd hm
  obtain rfl := Option.some.inj hm
  obtain ⟨u, hu, ru⟩ := pr_get q hy
  have c : Chg [l] H (upd H l (.lst (vs.eraseIdx j))) := Chg.wr g (fun z => z)
  obtain ⟨h1, h2, h3, h4⟩ := ixN_seq (show L2.ixN vs.length i = some j by rw [pr_len q]; exact hj)
  have hb2 : vs.length ≤ 1000000 := by rw [pr_len q]; exact hb
  exact ⟨l, vs, i, j, u, rfl, rfl, g, by omega, by omega, h1, hu, k u _ c (Ty.fz ru c) ⟨l, _, rfl, rfl, upd_same, Paired.mapP (pr_erase q j) fun _ _ z => Ty.fz z c⟩⟩
end
end G

namespace G
open PySem PySem.Spec PyProof.Rows L2
/-! ### a list whose items may hold lists -/
def Sub (F G : List Addr) : Prop := ∀ b ∈ F, b ∈ G
def yLsg {α : Type} (τ : Ty α) : Ty (List α) where
  rep K H F v xs := ∃ a vs G, v = .ref a ∧ F = a :: G ∧ a ∉ G ∧ H a = some (.lst vs) ∧ (∀ b ∈ G, ∃ o, H b = some o ∧ ¬ Froz o) ∧ Paired (fun u x => ∃ Fi, τ.rep K H Fi u x ∧ Sub Fi G) vs xs
  keep {K H H' F v xs} h k := by
    obtain ⟨a, vs, G, e, rfl, na, g, dm, r⟩ := h
    refine ⟨a, vs, G, e, rfl, na, k a _ g (.inl (List.mem_cons_self ..)), fun b hb => ?_, Paired.mapP r fun u x q => ?_⟩
    · obtain ⟨o, ho, hf⟩ := dm b hb
      exact ⟨o, k b o ho (.inl (List.mem_cons_of_mem _ hb)), hf⟩
    · obtain ⟨Fi, ru, sb⟩ := q
      exact ⟨Fi, τ.keep ru fun b o hb z => k b o hb (z.imp (fun y => List.mem_cons_of_mem _ (sb b y)) id), sb⟩
  dom {K H F v xs} h b m := by
    obtain ⟨a, vs, G, e, rfl, na, g, dm, r⟩ := h
    rcases List.mem_cons.mp m with rfl | m
    · exact ⟨_, g, fun z => z⟩
    · exact dm b m
section
variable {K : PySem.W.Frag} {σ σ' : L2.St} {H : Hp} {F F1 F2 Fu : List Addr} {ta tb te : TE} {v u x y : V} {i j : Int} {t tu tt : TT} {b c a : Bool} {α β : Type} {τ : Ty α} {υ : Ty β} {Q : VK} {D : Ends} {t1 t2 : TS} {g : TG} {ws : List Nat}
theorem lsg_sq {xs : List α} (r : (yLsg τ).rep K H F v xs) : ∃ a vs, v = .ref a ∧ a ∈ F ∧ SqL K H a vs ∧ Paired (fun u x => ∃ Fi, τ.rep K H Fi u x ∧ Sub Fi F ∧ a ∉ Fi) vs xs := by
  obtain ⟨a, vs, G, e, rfl, na, g, dm, q⟩ := r
  exact ⟨a, vs, e, List.mem_cons_self .., .inl (.inl g), Paired.mapP q fun u x z => by
    obtain ⟨Fi, ru, sb⟩ := z
    exact ⟨Fi, ru, fun b hb => List.mem_cons_of_mem _ (sb b hb), fun hb => na (sb a hb)⟩⟩
theorem nn_lsg {xs : List α} (r : (yLsg τ).rep K H F v xs) : v ≠ .non := by obtain ⟨a, vs, G, rfl, _⟩ := r; exact fun z => nomatch z
theorem ty_lsg {xs : List α} (r : (yLsg τ).rep K H F v xs) : TyX K H v (.type "list") := by
  obtain ⟨a, vs, G, rfl, _, _, g, _⟩ := r
  exact .base (.lst g)
theorem tyv_lsg {xs : List α} (r : (yLsg τ).rep K H F v xs) : tyV K "list" v H := by
  obtain ⟨a, vs, rfl, _, s, q⟩ := lsg_sq r
  exact .inl ⟨rfl, _, s⟩
theorem val_lenG {xs : List α} (r : (yLsg τ).rep K H F v xs) (ha : Val ta σ H v) : Val (tCB (rLenQ K) (tCons ta tNil)) σ H (.int (xs.length : Int)) := by
  obtain ⟨a, vs, e, _, s, q⟩ := lsg_sq r
  subst e
  exact fun Q k => ha _ ⟨a, vs, rfl, .inl s, by rw [pr_len q]; exact k⟩
theorem w_lenG {xs : List α} (r : (yLsg τ).rep K H F v xs) (k : Q (.int (xs.length : Int)) H) : rLenQ K [v] H Q := by
  obtain ⟨a, vs, e, _, s, q⟩ := lsg_sq r
  subst e
  exact ⟨a, vs, rfl, .inl s, by rw [pr_len q]; exact k⟩
/-- the item's own value -/
theorem itm_G {xs : List α} {x : α} (r : (yLsg τ).rep K H F v xs) (h : Mi.at_ xs i = some x) :
    ∃ u Fi, τ.rep K H Fi u x ∧ Sub Fi F ∧ (∀ p, v = .ref p → p ∉ Fi) ∧ (∀ {Q : VK}, Q u H → rIxL K v (.int i) H Q) ∧ ∀ {σ : L2.St} {ta tb : TE}, Val ta σ H v → Val tb σ H (.int i) → Val (tOp (rIxL K) ta tb) σ H u := by
  obtain ⟨a, vs, e, _, s, q⟩ := lsg_sq r
  subst e
  obtain ⟨u, e, Fi, ru, sb, na⟩ := pr_at q h
  have k : ∀ {Q : VK}, Q u H → rIxL K (.ref a) (.int i) H Q := fun k => ⟨a, vs, i, u, rfl, rfl, s, e, k⟩
  exact ⟨u, Fi, ru, sb, fun p hp => by obtain rfl := V.ref.inj hp; exact na, k, fun ha hb => val_op ha hb fun Q q => k q⟩
/-- a new list of such items -/
theorem e_lsg {vs : List V} {xs : List α} {G : List Addr} (z : vs.length ≤ Mi.big) (dm : ∀ b ∈ G, ∃ o, H b = some o ∧ ¬ Froz o) (r : Paired (fun u x => ∃ Fi, τ.rep K H Fi u x ∧ Sub Fi G) vs xs)
    (k : ∀ p H', H p = none → Chg [] H H' → (yLsg τ).rep K H' (p :: G) (.ref p) xs → Q (.ref p) H') : LstG vs H Q := by
  refine ⟨sz z, fun p np => k p _ np (Chg.new np) ⟨p, vs, G, rfl, rfl, fun hp => ?_, upd_same, fun b hb => ?_, Paired.mapP r fun u x q => ?_⟩⟩
  · obtain ⟨o, ho, _⟩ := dm p hp
    rw [np] at ho; cases ho
  · obtain ⟨o, ho, hf⟩ := dm b hb
    exact ⟨o, by rw [upd_ne (ne_of_none ho np)]; exact ho, hf⟩
  · obtain ⟨Fi, ru, sb⟩ := q
    exact ⟨Fi, Ty.ex ru (Chg.new np), sb⟩
theorem Ty.dm {d : α} (r : τ.rep K H F v d) : ∀ b ∈ F, ∃ o, H b = some o ∧ ¬ Froz o := τ.dom r
theorem dm_nil : ∀ b ∈ ([] : List Addr), ∃ o, H b = some o ∧ ¬ Froz o := fun b h => nomatch h
theorem dm_app (d1 : ∀ b ∈ F1, ∃ o, H b = some o ∧ ¬ Froz o) (d2 : ∀ b ∈ F2, ∃ o, H b = some o ∧ ¬ Froz o) : ∀ b ∈ F1 ++ F2, ∃ o, H b = some o ∧ ¬ Froz o := fun b h => (List.mem_append.mp h).elim (d1 b) (d2 b)
/-- xs.append(e) -/
theorem m_appG {xs ys : List α} {d : α} (r : (yLsg τ).rep K H F v xs) (ru : τ.rep K H Fu u d) (ap : ∀ p, v = .ref p → p ∉ Fu) (hm : Mi.app xs d = some ys)
    (k : ∀ H' F', Chg F H H' → (yLsg τ).rep K H' F' v ys → Sub F F' → Sub F' (F ++ Fu) → Q .non H') : rAppend v [u] H Q := by
  obtain ⟨p, vs, G, rfl, rfl, na, g, dm, q⟩ := r
  have np : p ∉ Fu := ap p rfl
  unfold Mi.app at hm
  split at hm
  · rename_i hz
    cases hm
    have c : Chg [p] H (upd H p (.lst (vs ++ [u]))) := Chg.wr g (fun z => z)
    have kp : ∀ {γ : Type} {ρ : Ty γ} {Fi : List Addr} {w : V} {e : γ}, ρ.rep K H Fi w e → p ∉ Fi → ρ.rep K (upd H p (.lst (vs ++ [u]))) Fi w e := fun rr hn => Ty.chg rr c fun b hb z => by
      rw [List.mem_singleton] at z; subst z; exact hn hb
    refine ⟨p, vs, u, rfl, rfl, g, Nat.lt_of_lt_of_le (by rw [pr_len q]; exact hz) line_big, k _ (p :: (G ++ Fu)) (c.mono fun b hb => by rw [List.mem_singleton] at hb; subst hb; exact List.mem_cons_self ..) ⟨p, _, G ++ Fu, rfl, rfl, ?_, upd_same, ?_, ?_⟩ ?_ ?_⟩
    · intro hp
      exact (List.mem_append.mp hp).elim na np
    · intro b hb
      have hbp : b ≠ p := fun e => by subst e; exact (List.mem_append.mp hb).elim na np
      obtain ⟨o, ho, hf⟩ := dm_app dm (Ty.dm ru) b hb
      exact ⟨o, by rw [upd_ne hbp]; exact ho, hf⟩
    · refine pr_app (Paired.mapP q fun w e z => ?_) (.cons ⟨Fu, kp ru np, fun b hb => List.mem_append_right _ hb⟩ .nil)
      obtain ⟨Fi, rr, sb⟩ := z
      exact ⟨Fi, kp rr fun hp => na (sb p hp), fun b hb => List.mem_append_left _ (sb b hb)⟩
    · intro b hb
      rcases List.mem_cons.mp hb with rfl | hb
      · exact List.mem_cons_self ..
      · exact List.mem_cons_of_mem _ (List.mem_append_left _ hb)
    · intro b hb
      rcases List.mem_cons.mp hb with rfl | hb
      · exact List.mem_append_left _ (List.mem_cons_self ..)
      · rcases List.mem_append.mp hb with hb | hb
        · exact List.mem_append_left _ (List.mem_cons_of_mem _ hb)
        · exact List.mem_append_right _ hb
  · cases hm
theorem Dj.ap {p : Addr} (d : Dj F Fu) (hp : p ∈ F) : p ∉ Fu := d p hp
theorem ap_of {xs : List α} (r : (yLsg τ).rep K H F v xs) (d : Dj F Fu) : ∀ p, v = .ref p → p ∉ Fu := fun p e => by
  obtain ⟨a, vs, G, e2, rfl, _⟩ := r
  rw [e] at e2
  obtain rfl := V.ref.inj e2
  exact d p (List.mem_cons_self ..)
theorem Dj.grow {G' : List Addr} (d : Dj F1 F) (d2 : Dj F1 Fu) (s : Sub G' (F ++ Fu)) : Dj F1 G' := fun b hb z => (List.mem_append.mp (s b z)).elim (d b hb) (d2 b hb)
theorem fresh_grow {H0 : Hp} {G' : List Addr} (n1 : ∀ a ∈ F, H0 a = none) (n2 : ∀ a ∈ Fu, H0 a = none) (s : Sub G' (F ++ Fu)) : ∀ a ∈ G', H0 a = none := fun b hb => (List.mem_append.mp (s b hb)).elim (n1 b) (n2 b)
theorem fresh_cons {H0 : Hp} {p : Addr} (n1 : H0 p = none) (n2 : ∀ a ∈ F, H0 a = none) : ∀ a ∈ p :: F, H0 a = none := fun b hb => by
  rcases List.mem_cons.mp hb with rfl | hb
  · exact n1
  · exact n2 b hb
theorem Dj.consR {p : Addr} (d1 : Dj F [p]) (d2 : Dj F F2) : Dj F (p :: F2) := fun b hb z => by
  rcases List.mem_cons.mp z with rfl | z
  · exact d1 b hb (List.mem_singleton.mpr rfl)
  · exact d2 b hb z
theorem Dj.subR {G' : List Addr} (d : Dj F G') (s : Sub F1 G') : Dj F F1 := fun b hb z => d b hb (s b z)
/-- a loop over it -/
theorem l_lsg {g : TG} {tb : TS} {nx : L2.St → Hp → Prop} {xs : List α} (r : (yLsg τ).rep K H F v xs) (Pv : Nat → L2.St → Hp → Prop) (h0 : Pv 0 σ H) (hl : ∀ i σ' H', Pv i σ' H' → (yLsg τ).rep K H' F v xs)
    (hs : ∀ (i : Nat) (x : α) (u : V) (Fi : List Addr) σ' H', xs[i]? = some x → τ.rep K H' Fi u x → Sub Fi F → Pv i σ' H' → g u σ' H' fun σ2 H2 => tb { D with nx := Pv (i + 1), ct := Pv (i + 1), bk := nx } σ2 H2) (hd : ∀ σ' H', Pv xs.length σ' H' → nx σ' H') :
    ∃ a, v = .ref a ∧ (∃ xs, SqL K H a xs) ∧ LoopG (Itl K a) g tb D nx σ H := by
  obtain ⟨a, vs, e, _, s, q⟩ := lsg_sq r
  refine ⟨a, e, ⟨vs, s⟩, fun i m σ' H' => m = xs.length - i ∧ i ≤ xs.length ∧ Pv i σ' H', ⟨xs.length, by omega, Nat.zero_le _, h0⟩, ?_⟩
  rintro i m σ' H' ⟨rfl, hi, p⟩
  obtain ⟨a', vs', e', _, s', q'⟩ := lsg_sq (hl i σ' H' p)
  obtain rfl : a = a' := by rw [e] at e'; exact V.ref.inj e'
  by_cases hlt : i < xs.length
  · obtain ⟨u, hu, Fi, ru, sb, _⟩ := pr_get q' (List.getElem?_eq_getElem hlt)
    refine .inr ⟨⟨vs', u, s', hu⟩, Pv (i + 1), fun σ2 H2 p' => ⟨xs.length - (i + 1), by omega, rfl, hlt, p'⟩, fun x H2 y => ?_⟩
    obtain ⟨rfl, y⟩ := y
    obtain rfl : x = u := Option.some.inj ((y _ s').symm.trans hu)
    exact hs i _ _ Fi σ' _ (List.getElem?_eq_getElem hlt) ru sb p
  · obtain rfl : i = xs.length := by omega
    exact .inl ⟨⟨vs', s', by rw [pr_len q']; exact Nat.le_refl _⟩, hd σ' H' p⟩
theorem kc_lsg {xs : List β} (r : (yLsg υ).rep K H F v xs) (Pv : Addr → Nat → Hp → Prop) (h0 : ∀ D H', H D = none → Chg [] H H' → (yLst τ).rep K H' [D] (.ref D) [] → Pv D 0 H') (hl : ∀ D i H', Pv D i H' → (yLsg υ).rep K H' F v xs)
    (hs : ∀ D (i : Nat) (x : β) (u : V) (Fi : List Addr) H', xs[i]? = some x → υ.rep K H' Fi u x → Sub Fi F → Pv D i H' → TurnG g tt te ws σ D (Pv D (i + 1)) u H') (hd : ∀ D H', H D = none → Pv D xs.length H' → Q (.ref D) H') :
    ∃ a, v = .ref a ∧ (∃ xs, SqL K H a xs) ∧ CompG (Itl K a) g tt te ws σ H Q := by
  obtain ⟨a, vs, e, _, s, q⟩ := lsg_sq r
  refine ⟨a, e, ⟨vs, s⟩, comp_by (K := K) (τ := τ) xs.length Pv h0 (fun D i H' hi p => ?_) (fun D H' hD p => ?_)⟩
  · obtain ⟨a', vs', e', _, s', q'⟩ := lsg_sq (hl D i H' p)
    obtain rfl : a = a' := by rw [e] at e'; exact V.ref.inj e'
    obtain ⟨u, hu, Fi, ru, sb, _⟩ := pr_get q' (List.getElem?_eq_getElem hi)
    refine ⟨⟨vs', u, s', hu⟩, fun x H2 y => ?_⟩
    obtain ⟨rfl, y⟩ := y
    obtain rfl : x = u := Option.some.inj ((y _ s').symm.trans hu)
    exact hs D i _ _ Fi _ (List.getElem?_eq_getElem hi) ru sb p
  · obtain ⟨a', vs', e', _, s', q'⟩ := lsg_sq (hl D _ H' p)
    obtain rfl : a = a' := by rw [e] at e'; exact V.ref.inj e'
    exact ⟨⟨vs', s', by rw [pr_len q']; exact Nat.le_refl _⟩, hd D H' hD p⟩
theorem w_listG {xs : List α} (r : (yLsg τ).rep K H F v xs) (k : ∀ p H' F', H p = none → Chg [] H H' → (yLsg τ).rep K H' F' (.ref p) xs → Sub F' (p :: F) → Q (.ref p) H') : rListQ K [v] H Q := by
  obtain ⟨a, vs, G, rfl, rfl, na, g, dm, q⟩ := r
  refine ⟨a, vs, rfl, .inl (.inl (.inl g)), fun n nn => k n _ (n :: G) nn (Chg.new nn) ⟨n, vs, G, rfl, rfl, fun hp => ?_, upd_same, fun b hb => ?_, Paired.mapP q fun w e z => ?_⟩ fun b hb => ?_⟩
  · obtain ⟨o, ho, _⟩ := dm n hp
    rw [nn] at ho; cases ho
  · obtain ⟨o, ho, hf⟩ := dm b hb
    exact ⟨o, by rw [upd_ne (ne_of_none ho nn)]; exact ho, hf⟩
  · obtain ⟨Fi, rr, sb⟩ := z
    exact ⟨Fi, Ty.ex rr (Chg.new nn), sb⟩
  · rcases List.mem_cons.mp hb with rfl | hb
    · exact List.mem_cons_self ..
    · exact List.mem_cons_of_mem _ (List.mem_cons_of_mem _ hb)
end
/-! ### data compared as a whole -/
structure Dat {α : Type} (τ : Ty α) (n : Nat) where
  f : α → PyData
  dec : DecidableEq α
  dp : ∀ {K : PySem.W.Frag} {H : Hp} {F : List Addr} {v : V} {d : α}, τ.rep K H F v d → Dp K H v (f d)
  lay : ∀ d, (f d).canLay0 = true
  dpt : ∀ d, (f d).depth ≤ n
  eqv : ∀ d e, PyData.eqv (f d) (f e) = decide (d = e)
theorem beq_dec {α : Type} [DecidableEq α] [BEq α] [LawfulBEq α] (a b : α) : (a == b) = decide (a = b) := by
  by_cases h : a = b
  · subst h; simp
  · rw [decide_eq_false h]; simpa using h
def dat_int : Dat yInt 0 where
  f := .int
  dec := inferInstance
  dp := fun h => by obtain ⟨_, rfl⟩ := h; exact .int _
  lay := fun d => by simp [PyData.canLay0]
  dpt := fun d => by simp [PyData.depth]
  eqv := fun d e => by simp only [PyData.eqv]; exact beq_dec d e
def dat_bool : Dat yBool 0 where
  f := .bool
  dec := inferInstance
  dp := fun h => by obtain ⟨_, rfl⟩ := h; exact .bl _
  lay := fun d => by simp [PyData.canLay0]
  dpt := fun d => by simp [PyData.depth]
  eqv := fun d e => by simp only [PyData.eqv]; exact beq_dec d e
section
variable {α β : Type} {τ : Ty α} {n m : Nat}
theorem dpAll {K : PySem.W.Frag} {H : Hp} {R : V → α → Prop} {f : α → PyData} (h : ∀ u x, R u x → Dp K H u (f x)) : ∀ {vs : List V} {xs : List α}, Paired R vs xs → DpAll K H vs (xs.map f)
  | _, _, .nil => .nil
  | _, _, .cons r t => .cons (h _ _ r) (dpAll h t)
theorem layAll {f : α → PyData} (h : ∀ d, (f d).canLay0 = true) : ∀ xs : List α, PyData.canLayAll0 (xs.map f) = true
  | [] => by simp [PyData.canLayAll0]
  | x :: xs => by simp [PyData.canLayAll0, h x, layAll h xs]
theorem dptAll {f : α → PyData} (h : ∀ d, (f d).depth ≤ n) : ∀ xs : List α, PyData.depthAll (xs.map f) ≤ n
  | [] => by simp [PyData.depthAll]
  | x :: xs => by
    simp only [List.map_cons, PyData.depthAll]
    exact Nat.max_le.mpr ⟨h x, dptAll h xs⟩
theorem eqvAllL [DecidableEq α] {f : α → PyData} (h : ∀ d e, PyData.eqv (f d) (f e) = decide (d = e)) : ∀ xs ys : List α, PyData.eqvAll (xs.map f) (ys.map f) = decide (xs = ys)
  | [], [] => by simp [PyData.eqvAll]
  | [], y :: ys => by simp [PyData.eqvAll]
  | x :: xs, [] => by simp [PyData.eqvAll]
  | x :: xs, y :: ys => by
    simp only [List.map_cons, PyData.eqvAll, h x y, eqvAllL h xs ys]
    by_cases h1 : x = y
    · by_cases h2 : xs = ys
      · simp [h1, h2]
      · simp [h2]
    · simp [h1]
def dat_lst (d : Dat τ n) : Dat (yLst τ) (n + 1) where
  f := fun xs => .list (xs.map d.f)
  dec := @instDecidableEqList _ d.dec
  dp := fun h => by
    obtain ⟨a, vs, rfl, s, q⟩ := lst_sq h
    exact .lst s (dpAll (fun u x z => d.dp z) q)
  lay := fun xs => by simp only [PyData.canLay0]; exact layAll d.lay xs
  dpt := fun xs => by simp only [PyData.depth]; exact Nat.succ_le_succ (dptAll d.dpt xs)
  eqv := fun xs ys => by simp only [PyData.eqv]; exact @eqvAllL _ d.dec _ d.eqv xs ys
def dat_lsg (d : Dat τ n) : Dat (yLsg τ) (n + 1) where
  f := fun xs => .list (xs.map d.f)
  dec := @instDecidableEqList _ d.dec
  dp := fun h => by
    obtain ⟨a, vs, rfl, _, s, q⟩ := lsg_sq h
    exact .lst s (dpAll (fun u x z => by obtain ⟨Fi, ru, _⟩ := z; exact d.dp ru) q)
  lay := fun xs => by simp only [PyData.canLay0]; exact layAll d.lay xs
  dpt := fun xs => by simp only [PyData.depth]; exact Nat.succ_le_succ (dptAll d.dpt xs)
  eqv := fun xs ys => by simp only [PyData.eqv]; exact @eqvAllL _ d.dec _ d.eqv xs ys
def dat_tupl (d : Dat τ n) : Dat (yTupL τ) (n + 1) where
  f := fun xs => .tuple (xs.map d.f)
  dec := @instDecidableEqList _ d.dec
  dp := fun h => by
    obtain ⟨a, vs, rfl, s, q⟩ := tupl_sq h
    exact .tup s (dpAll (fun u x z => d.dp z) q)
  lay := fun xs => by simp only [PyData.canLay0]; exact layAll d.lay xs
  dpt := fun xs => by simp only [PyData.depth]; exact Nat.succ_le_succ (dptAll d.dpt xs)
  eqv := fun xs ys => by simp only [PyData.eqv]; exact @eqvAllL _ d.dec _ d.eqv xs ys
end
structure Sat {α : Type} (ts : Tys α) (n : Nat) where
  f : α → List PyData
  dec : DecidableEq α
  dp : ∀ {K : PySem.W.Frag} {H : Hp} {F : List Addr} {vs : List V} {d : α}, ts.rep K H F vs d → DpAll K H vs (f d)
  lay : ∀ d, PyData.canLayAll0 (f d) = true
  dpt : ∀ d, PyData.depthAll (f d) ≤ n
  eqv : ∀ d e, PyData.eqvAll (f d) (f e) = decide (d = e)
section
variable {α β : Type} {τ : Ty α} {ts : Tys β} {n m : Nat}
def sat_one (d : Dat τ n) : Sat (sOne τ) n where
  f := fun x => [d.f x]
  dec := d.dec
  dp := fun h => by obtain ⟨v, rfl, r⟩ := h; exact .cons (d.dp r) .nil
  lay := fun x => by simp [PyData.canLayAll0, d.lay x]
  dpt := fun x => by simp only [PyData.depthAll]; exact Nat.max_le.mpr ⟨d.dpt x, Nat.zero_le _⟩
  eqv := fun x y => by simp [PyData.eqvAll, d.eqv x y]
def sat_cons (d : Dat τ n) (s : Sat ts m) : Sat (sCons τ ts) (max n m) where
  f := fun x => d.f x.1 :: s.f x.2
  dec := @instDecidableEqProd _ _ d.dec s.dec
  dp := fun h => by obtain ⟨v, ws, F1, F2, rfl, _, r, q⟩ := h; exact .cons (d.dp r) (s.dp q)
  lay := fun x => by simp [PyData.canLayAll0, d.lay x.1, s.lay x.2]
  dpt := fun x => by
    simp only [PyData.depthAll]
    have h1 := d.dpt x.1
    have h2 := s.dpt x.2
    omega
  eqv := fun x y => by
    obtain ⟨x1, x2⟩ := x
    obtain ⟨y1, y2⟩ := y
    letI := d.dec
    letI := s.dec
    simp only [PyData.eqvAll, d.eqv x1 y1, s.eqv x2 y2]
    by_cases h1 : x1 = y1
    · by_cases h2 : x2 = y2
      · subst h1 h2; simp
      · have : ¬ ((x1, x2) = (y1, y2)) := fun e => h2 (Prod.mk.inj e).2
        simp only [h2, decide_false, Bool.and_false]
        exact (decide_eq_false this).symm
    · have : ¬ ((x1, x2) = (y1, y2)) := fun e => h1 (Prod.mk.inj e).1
      simp only [h1, decide_false, Bool.false_and]
      exact (decide_eq_false this).symm
def dat_tup (s : Sat ts m) : Dat (yTup ts) (m + 1) where
  f := fun x => .tuple (s.f x)
  dec := s.dec
  dp := fun h => by obtain ⟨a, vs, rfl, sq, q⟩ := h; exact .tup sq (s.dp q)
  lay := fun x => by simp only [PyData.canLay0]; exact s.lay x
  dpt := fun x => by simp only [PyData.depth]; exact Nat.succ_le_succ (s.dpt x)
  eqv := fun x y => by simp only [PyData.eqv]; exact s.eqv x y
end
section
variable {X : Cx} {K : PySem.W.Frag} {H : Hp} {F1 F2 : List Addr} {v u : V} {α : Type} {τ : Ty α} {Q : VK} {n : Nat} {x y : α}
theorem op_eq_d {K : PySem.W.Frag} (hu : X.A.units + 64 < cLine) (e : X.K = K := by rfl) : OpR X (compareOp .Eq) (rEqD K) := by subst e; exact op_eqD hu
theorem op_ne_d {K : PySem.W.Frag} (hu : X.A.units + 64 < cLine) (e : X.K = K := by rfl) : OpR X (compareOp .NotEq) (rNeD K) := by subst e; exact op_neD hu
theorem Dat.shaped (d : Dat τ n) (hn : n ≤ 64) (x : α) : SeqAt.shaped (d.f x) = true := by
  unfold SeqAt.shaped
  rw [d.lay x, decide_eq_true (Nat.le_trans (d.dpt x) hn)]
  rfl
theorem w_eqD [i : DecidableEq α] (d : Dat τ n) (r : τ.rep K H F1 v x) (q : τ.rep K H F2 u y) (k : Q (.bl (decide (x = y))) H) (hn : n ≤ 64 := by decide) : rEqD K v u H Q :=
  ⟨_, _, d.dp r, d.dp q, d.shaped hn x, d.shaped hn y, by
    have e : @decide (x = y) (d.dec x y) = @decide (x = y) (i x y) := by congr
    rw [d.eqv, e]; exact k⟩
theorem w_neD [i : DecidableEq α] (d : Dat τ n) (r : τ.rep K H F1 v x) (q : τ.rep K H F2 u y) (k : Q (.bl (!decide (x = y))) H) (hn : n ≤ 64 := by decide) : rNeD K v u H Q :=
  ⟨_, _, d.dp r, d.dp q, d.shaped hn x, d.shaped hn y, by
    have e : @decide (x = y) (d.dec x y) = @decide (x = y) (i x y) := by congr
    rw [d.eqv, e]; exact k⟩
end
end G
namespace G
open PySem PySem.Spec PyProof.Rows L2
section
variable {K : PySem.W.Frag} {σ σ' : L2.St} {H : Hp} {F F1 F2 Fu : List Addr} {ta tb te : TE} {v u x y : V} {i j : Int} {α β : Type} {τ : Ty α} {υ : Ty β} {Q : VK} {D : Ends} {t1 t2 : TS} {g : TG} {ws : List Nat}
theorem lsg_nil {p : Addr} {υ : Ty β} (r : (yLst υ).rep K H [p] (.ref p) []) : (yLsg τ).rep K H [p] (.ref p) [] := by
  obtain ⟨a, vs, e, f, g, q⟩ := r
  obtain rfl := V.ref.inj e
  cases q
  exact ⟨p, [], [], rfl, rfl, List.not_mem_nil, g, fun b h => absurd h List.not_mem_nil, Paired.nil⟩
theorem e_appG {D : Addr} {N : Hp → Prop} {xs ys : List α} {d : α} (r : (yLsg τ).rep K H F (.ref D) xs) (ru : τ.rep K H Fu u d) (ap : ∀ p, V.ref D = .ref p → p ∉ Fu) (hm : Mi.app xs d = some ys)
    (k : ∀ H' F', Chg F H H' → (yLsg τ).rep K H' F' (.ref D) ys → Sub F F' → Sub F' (F ++ Fu) → N H') : AppG D N u H := by
  have h := m_appG (Q := fun _ H' => N H') r ru ap hm k
  obtain ⟨l, xs', y, e, e2, g, hz, q⟩ := h
  obtain rfl := V.ref.inj e
  obtain rfl : u = y := by simpa using e2
  exact ⟨xs', g, hz, q⟩
theorem enumF_at {α : Type} : ∀ (k : Int) (xs : List α) (i : Nat) {x : α}, xs[i]? = some x → (Mi.enumF k xs)[i]? = some (k + i, x)
  | _, [], _, _, h => by simp at h
  | k, y :: ys, 0, x, h => by
    obtain rfl : y = x := by simpa using h
    show some (k, y) = some (k + ((0 : Nat) : Int), y)
    rw [show k + ((0 : Nat) : Int) = k by omega]
  | k, y :: ys, i + 1, x, h => by
    show (Mi.enumF (k + 1) ys)[i]? = _
    rw [enumF_at (k + 1) ys i (by simpa using h)]
    congr 2
    omega
theorem enumF_len {α : Type} : ∀ (k : Int) (xs : List α), (Mi.enumF k xs).length = xs.length
  | _, [] => rfl
  | k, _ :: ys => by show (Mi.enumF (k + 1) ys).length + 1 = ys.length + 1; rw [enumF_len]
theorem w_iEnum {ts : TA} {R : It → Hp → Prop} (h : ts σ H fun vs H1 => ∃ a xs, vs = [.ref a] ∧ SqL K H1 a xs ∧ R (Ite K a) H1) : iEnum K ts σ H R := h
theorem l_enum {tb : TS} {nx : L2.St → Hp → Prop} {xs : List α} {i1 i2 : Nat} (r : (yLst τ).rep K H F v xs) (Pv : Nat → L2.St → Hp → Prop) (h0 : Pv 0 σ H) (hl : ∀ i σ' H', Pv i σ' H' → (yLst τ).rep K H' F v xs)
    (hs : ∀ (i : Nat) (x : Int × α) (u : V) σ' H' H2, (Mi.enumF 0 xs)[i]? = some x → Chg [] H' H2 → τ.rep K H2 [] u x.2 → Pv i σ' H' → tb { D with nx := Pv (i + 1), ct := Pv (i + 1), bk := nx } ((σ'.set i1 (some (.int x.1))).set i2 (some u)) H2) (hd : ∀ σ' H', Pv (Mi.enumF 0 xs).length σ' H' → nx σ' H') :
    ∃ a xs, [v] = [.ref a] ∧ SqL K H a xs ∧ LoopG (Ite K a) (gTup K 2 (gCons (gName i1) (gCons (gName i2) gNil))) tb D nx σ H := by
  obtain ⟨a, vs, rfl, s, q⟩ := lst_sq r
  refine ⟨a, vs, rfl, s, fun i m σ' H' => m = xs.length - i ∧ i ≤ xs.length ∧ Pv i σ' H', ⟨xs.length, by omega, Nat.zero_le _, h0⟩, ?_⟩
  rintro i m σ' H' ⟨rfl, hi, p⟩
  obtain ⟨a', vs', e', s', q'⟩ := lst_sq (hl i σ' H' p)
  obtain rfl := V.ref.inj e'
  by_cases hlt : i < xs.length
  · obtain ⟨u, hu, ru⟩ := pr_get q' (List.getElem?_eq_getElem hlt)
    refine .inr ⟨⟨vs', u, s', hu⟩, Pv (i + 1), fun σ2 H2 p' => ⟨xs.length - (i + 1), by omega, rfl, hlt, p'⟩, fun x H2 y => ?_⟩
    obtain ⟨T, w, rfl, nT, rfl, y⟩ := y
    obtain rfl : w = u := Option.some.inj ((y _ s').symm.trans hu)
    have hx := enumF_at 0 xs i (List.getElem?_eq_getElem hlt)
    have c : Chg [] H' (upd H' T (.tup [.int (i : Nat), w])) := Chg.new nT
    have h := hs i _ w σ' H' _ hx c (Ty.ex ru c) p
    have e0 : (0 : Int) + (i : Int) = (i : Int) := Int.zero_add _
    rw [e0] at h
    exact ⟨T, _, rfl, .inl (.inl upd_same), rfl, _, _, rfl, _, _, rfl, rfl, h⟩
  · obtain rfl : i = xs.length := by omega
    exact .inl ⟨⟨vs', s', by rw [pr_len q']; exact Nat.le_refl _⟩, hd σ' H' (by rw [enumF_len]; exact p)⟩
end
end G
namespace G
theorem of_guard {p : Prop} [Decidable p] {u : Unit} (h : Mi.guardO (decide p) = some u) : p := by
  unfold Mi.guardO at h
  split at h
  · exact of_decide_eq_true (by assumption)
  · cases h
end G

/-! ### enumerate over a tuple -/
namespace PySem
open Sem (wp)
theorem enumT_meets (l : Addr) (its : Array Value) :
    Meets (Builtin.«enumerate.__new__» ⟨[.type "enumerate", .ref l], []⟩) (fun _ R s => s.heap.IsTuple l its ∧
      R (.ok (.ret (.ref (s.heap.push { cls := .type "tuple_iterator", data := .fields #[.ref l, .int 0 0] }).objs.size)))
        { s with heap := (s.heap.push { cls := .type "tuple_iterator", data := .fields #[.ref l, .int 0 0] }).push { cls := .type "enumerate", data := .fields #[.none, .bool false, .ref s.heap.objs.size, rawInt 0, .none, .none] } }) :=
  .of_wp fun prog w A R s hz => by
    obtain ⟨hp, gl, d, tk, os⟩ := s
    obtain ⟨hT, hz⟩ := hz
    have hsb := sub_enumerate
    have ht : Heap.IsTuple (Shared.heap ⟨hp, gl, d, tk, os⟩) l its := hT
    wp_walk
    refine wpAny_stack_any fun stk => wpAny_pure ?_
    split
    · rename_i c _ _ _ _ _
      cases (c == Value.type "enumerate")
      all_goals (wp_walk using wpAny_pyIter_tuple ht; exact ⟨_, rfl, hz⟩)
    · (wp_walk using wpAny_pyIter_tuple ht); exact ⟨_, rfl, hz⟩
section
variable {prog : Program} {w : World} {A : Around} {E : Value → Shared → Prop} {s : Shared}
theorem enumT_call {l : Addr} {its : Array Value} {Q : Value → Shared → Prop} (hL : s.heap.IsTuple l its)
    (k : ∀ h', IsEnum h' (s.heap.objs.size + 1) s.heap.objs.size 0 .none → h'.IsTupleIter s.heap.objs.size l 0 → h'.objs.size = s.heap.objs.size + 2 →
      (∀ b o, s.heap.get? b = some o → h'.get? b = some o) → Q (.ref (s.heap.objs.size + 1)) { s with heap := h' }) :
    wpAny (model prog w) A (call (.type "enumerate") [.ref l]) Q E s := by
  refine callType_new F.called_enumerate (by decide) (F.typeCall_enumerate_1 _) (F.newCall_enumerate_1 _) (fun ob => F.args_object_init_2 ob _) F.entry_enumerate_new (enumT_meets l its) ⟨hL, ?_⟩
  have sz : (s.heap.push { cls := .type "tuple_iterator", data := .fields #[.ref l, .int 0 0] }).objs.size = s.heap.objs.size + 1 := Heap.size_push ..
  show _ ∧ _
  rw [sz]
  have en : IsEnum ((s.heap.push { cls := .type "tuple_iterator", data := .fields #[.ref l, .int 0 0] }).push
      { cls := .type "enumerate", data := .fields #[.none, .bool false, .ref s.heap.objs.size, rawInt 0, .none, .none] }) (s.heap.objs.size + 1) s.heap.objs.size 0 .none := by
    have z := Heap.get?_push_size (s.heap.push { cls := .type "tuple_iterator", data := .fields #[.ref l, .int 0 0] })
      (o := { cls := .type "enumerate", data := .fields #[.none, .bool false, .ref s.heap.objs.size, rawInt 0, .none, .none] }) rfl
    rw [sz] at z; exact z
  exact ⟨⟨_, en, rfl⟩, k _ en ⟨_, Heap.get?_push_of_some _ (Heap.get?_push_size _ rfl), rfl, rfl⟩ (by rw [Heap.size_push, sz]) fun b o x => Heap.get?_push_of_some _ (Heap.get?_push_of_some _ x)⟩
end
end PySem
namespace L2
open PySem PySem.Spec PyProof.Rows
/-- the tuple at a, each item in a new pair -/
def ItT (K : PySem.W.Frag) (a : Addr) : It :=
  ⟨fun i H => ∃ (xs : List V) (x : V), SqT K H a xs ∧ xs[i]? = some x, fun i H v H' => ∃ T x, v = .ref T ∧ H T = none ∧ H' = upd H T (.tup [.int (i : Nat), x]) ∧ ∀ xs, SqT K H a xs → xs[i]? = some x, fun i H => ∃ xs : List V, SqT K H a xs ∧ xs.length ≤ i⟩
theorem turn_enumT {P : Program} {w : World} {K : PySem.W.Frag} {elts : List Expr} {kk : Nat} {tpos : Pos} (a e it : Addr) :
    Turn P w K (.Tuple elts kk tpos) (ItT K a) [e, it] e (fun i h => (∃ old, IsEnum h e it ((i : Nat) : Int) old) ∧ h.IsTupleIter it a i ∧ e ≠ it) where
  mem := by simp
  obj := fun i h st b hb => by
    obtain ⟨⟨old, he⟩, ⟨o, ho, hc, hd⟩, _⟩ := st
    rcases (show b = e ∨ b = it by simpa using hb) with z | z
    · rw [z]; exact ⟨_, he, fun v q => nomatch q⟩
    · rw [z]; exact ⟨o, ho, fun v q => by rw [hd] at q; cases q⟩
  keep := fun i h h' st k => let ⟨⟨old, he⟩, hi, hne⟩ := st; ⟨⟨old, k e (by simp) _ he⟩, hi.at fun o q => k it (by simp) o q, hne⟩
  item := by
    intro X hP hw hK hc i pins s σ H E I hf st hg
    subst hP hw hK
    obtain ⟨⟨old, hen⟩, hit, hne⟩ := st
    obtain ⟨xs, x, hsq, hx⟩ := hg
    obtain ⟨its, rv, pT, _⟩ := I.tuple hsq
    obtain ⟨u, hu, ru⟩ := rv.get hx
    have hel : e < s.heap.objs.size := Heap.lt_size hen
    have hil : it < s.heap.objs.size := by obtain ⟨_, q, _⟩ := hit; exact Heap.lt_size q
    have hT : s.heap.IsTuple a its.toArray := pT
    have hai : a ≠ it := fun z => by
      obtain ⟨o1, e1, c1, _⟩ := hT
      obtain ⟨o2, e2, c2, _⟩ := hit
      rw [z, e2] at e1
      cases e1
      rw [c1] at c2
      exact absurd c2 (by decide)
    have hea : e ≠ a := fun z => by
      obtain ⟨o1, e1, c1, _⟩ := hT
      rw [← z] at e1
      have z2 : s.heap.get? e = _ := hen
      rw [z2] at e1
      cases e1
      exact absurd (show (Value.type "enumerate" : Value) = .type "tuple" from c1) (by decide)
    have hD := Draws.tuple (prog := X.prog) (w := X.w) (A := X.A.in1) (I.ok.hd hc) it a hai its.toArray
    refine wpAny_pyNext_enum_itemD hD hen ⟨hit, hT⟩ (by have := (List.getElem?_eq_some_iff.mp hu).1; simpa using this) hne (by simp [hne, hea]) fun y h' tk hy ho st' hT1 hsz hk => ?_
    obtain rfl : u = y := by
      have hy' : its.toArray[i]? = some y := hy
      rw [List.getElem?_toArray, hu] at hy'
      exact Option.some.inj hy'
    refine ⟨_, rfl, wpAny_letOwnedTupleGo_enum (s := { s with heap := h', toks := tk + 1 }) ho fun h2 he2 sb => ?_⟩
    have hT2 : h2.get? s.heap.objs.size = some { cls := .type "tuple", data := .seq #[.int i tk, u] } := (sb.2 _ (Nat.ne_of_gt hel)).trans hT1
    have nw : ObjOk X.prog X.w (upd H s.heap.objs.size (.tup [.int (i : Nat), x])) h2 s.heap.objs.size (.tup [.int (i : Nat), x]) :=
      ⟨by show 2 ≤ sizeLine; decide, [.int i tk, u], .cons ⟨_, rfl⟩ (.cons ru .nil), ⟨_, hT2, rfl, _, rfl⟩⟩
    have I1 : Inv X pins σ (upd H s.heap.objs.size (.tup [.int (i : Nat), x])) { s with heap := h2, toks := tk + 1 } :=
      I.turnedNew (ch := [e, it]) (fun b ob hb q => (sb.2 b (fun z => hb (by simp [z]))).trans (hk b ob (fun z => hb (by simp [z])) (fun z => hb (by simp [z])) q)) hf (Nat.le_refl _) nw
    refine ⟨.ref s.heap.objs.size, _, I1, rfl, ⟨_, x, rfl, I.hok.fresh (Nat.le_refl _), rfl, fun ys hy => by rw [I.tuple_inj hy hsq]; exact hx⟩, ⟨⟨u, ?_⟩, st'.1.at fun o q => (sb.2 it (Ne.symm hne)).trans q, hne⟩, fun b hb => ?_⟩
    · rw [show ((i + 1 : Nat) : Int) = (i : Int) + 1 by omega]; exact he2
    · have hb' : b < s.heap.objs.size := by
        rcases (show b = e ∨ b = it by simpa using hb) with z | z
        · rw [z]; exact hel
        · rw [z]; exact hil
      rw [upd_ne (Nat.ne_of_lt hb')]
      exact (hf b hb).1
  done := by
    intro X hP hw hK hc i pins s σ H E I hf st hg
    subst hP hw hK
    obtain ⟨⟨old, hen⟩, hit, hne⟩ := st
    obtain ⟨xs, hsq, hx⟩ := hg
    obtain ⟨its, rv, pT, _⟩ := I.tuple hsq
    obtain ⟨f0, f1, f2, f3, f4, f5⟩ := hf it (by simp)
    have hl := rv.length
    have hT : s.heap.IsTuple a its.toArray := pT
    have hai : a ≠ it := fun z => by
      obtain ⟨o1, e1, c1, _⟩ := hT
      obtain ⟨o2, e2, c2, _⟩ := hit
      rw [z, e2] at e1
      cases e1
      rw [c1] at c2
      exact absurd c2 (by decide)
    have hTy : s.TypeIs (.ref e) "enumerate" := ⟨_, hen, rfl⟩
    unfold pyNext
    refine wpAny_bind (wpAny_attempt (wpAny_callSpecial?_slot (name := Str.ofString "__next__") hTy F.slot_enumerate_next (wpAny_call_entry F.slot_enumerate_next hTy F.entry_enumerate_next ?_ (F.args_enumerate_next_1 _))))
    show wpAny _ _ (field (.ref e) 2 >>= _) _ _ _
    refine wpAny_bind (wpAny_field hen rfl (x := .ref it) rfl ?_)
    refine wpAny_bind (wpAny_nextOf_tuple_end (I.ok.hd hc) hit hT (by simp; omega) fun h' y eb hy => ?_)
    obtain ⟨o, ho, hcl⟩ := hy
    refine wpAny_bind (wpAny_isInstance (T := "StopIteration") (b := true) ⟨o, ho, hcl⟩ isSubtype_stop ?_)
    exact wpAny_pure ⟨rfl, I.turned (t' := s.toks) (fun b o hb q => eb b o hb q) f0 f1 f3 f4 f5⟩
  self := fun A i s Q E st h => let ⟨⟨_, he⟩, _⟩ := st; wpAny_pyIter_enum he h
def iEnumT (K : PySem.W.Frag) (ta : TA) : TI := fun σ H R => ta σ H fun vs H1 => ∃ a xs, vs = [.ref a] ∧ SqT K H1 a xs ∧ R (ItT K a) H1
theorem pi_enumT {X : Cx} {e : Expr} {ta : TA} {p pos tpos : Pos} {elts : List Expr} {kk : Nat} (hg : Gl X "enumerate") (hm : X.mg "enumerate" = none) (ha : PA X [e] ta) (hs : starEach [e] X.env = [(false, eval e X.env)] := by rfl) :
    PI X (.Tuple elts kk tpos) (.Call (.Name "enumerate" p) [e] [] pos) (iEnumT X.K ta) := by
  refine ⟨fun pins s σ H R I h => ?_⟩
  refine Call_ (ld_blt I hg hm boot_enumerate (PyProof.Rows.callWith_type1 (thn (ha.run pos pins s σ H _ I h) fun us s1 ⟨vs, H1, I1, r1, q1⟩ => ?_) hs rfl))
  obtain ⟨a, xs, rfl, hsq, q⟩ := q1
  cases r1 with
  | cons r rr =>
    cases rr
    cases r
    obtain ⟨its, rv, pT, _⟩ := I1.tuple hsq
    refine enumT_call (show s1.heap.IsTuple a its.toArray from pT) fun h' hen hit hsz hk => wpAny_pyIter_enum hen ?_
    have I2 : Inv X pins σ H1 { s1 with heap := h' } := I1.kept (t' := s1.toks) hk
    refine ⟨s1.heap.objs.size + 1, [s1.heap.objs.size + 1, s1.heap.objs.size], _, _, H1, rfl, I2, turn_enumT a (s1.heap.objs.size + 1) s1.heap.objs.size, ⟨⟨.none, hen⟩, hit, Nat.succ_ne_self _⟩, fun b hb => ?_, q⟩
    have hle : s1.heap.objs.size ≤ b := by
      rcases (show b = s1.heap.objs.size + 1 ∨ b = s1.heap.objs.size by simpa using hb) with z | z
      · rw [z]; exact Nat.le_add_right _ _
      · rw [z]; exact Nat.le_refl _
    exact I1.fpOk hle (I1.hok.fresh hle)
end L2
namespace G
open PySem PySem.Spec PyProof.Rows L2
section
variable {K : PySem.W.Frag} {σ σ' : L2.St} {H : Hp} {F F1 F2 Fu : List Addr} {ta tb te : TE} {v u x y : V} {i j : Int} {α β : Type} {τ : Ty α} {υ : Ty β} {Q : VK} {D : Ends} {t1 t2 : TS} {g : TG} {ws : List Nat}
theorem w_iEnumT {ts : TA} {R : It → Hp → Prop} (h : ts σ H fun vs H1 => ∃ a xs, vs = [.ref a] ∧ SqT K H1 a xs ∧ R (ItT K a) H1) : iEnumT K ts σ H R := h
theorem l_enumT {tb : TS} {nx : L2.St → Hp → Prop} {xs : List α} {i1 i2 : Nat} (r : (yTupL τ).rep K H F v xs) (Pv : Nat → L2.St → Hp → Prop) (h0 : Pv 0 σ H) (hl : ∀ i σ' H', Pv i σ' H' → (yTupL τ).rep K H' F v xs)
    (hs : ∀ (i : Nat) (x : Int × α) (u : V) σ' H' H2, (Mi.enumF 0 xs)[i]? = some x → Chg [] H' H2 → τ.rep K H2 [] u x.2 → Pv i σ' H' → tb { D with nx := Pv (i + 1), ct := Pv (i + 1), bk := nx } ((σ'.set i1 (some (.int x.1))).set i2 (some u)) H2) (hd : ∀ σ' H', Pv (Mi.enumF 0 xs).length σ' H' → nx σ' H') :
    ∃ a xs, [v] = [.ref a] ∧ SqT K H a xs ∧ LoopG (ItT K a) (gTup K 2 (gCons (gName i1) (gCons (gName i2) gNil))) tb D nx σ H := by
  obtain ⟨a, vs, rfl, s, q⟩ := tupl_sq r
  refine ⟨a, vs, rfl, s, fun i m σ' H' => m = xs.length - i ∧ i ≤ xs.length ∧ Pv i σ' H', ⟨xs.length, by omega, Nat.zero_le _, h0⟩, ?_⟩
  rintro i m σ' H' ⟨rfl, hi, p⟩
  obtain ⟨a', vs', e', s', q'⟩ := tupl_sq (hl i σ' H' p)
  obtain rfl := V.ref.inj e'
  by_cases hlt : i < xs.length
  · obtain ⟨u, hu, ru⟩ := pr_get q' (List.getElem?_eq_getElem hlt)
    refine .inr ⟨⟨vs', u, s', hu⟩, Pv (i + 1), fun σ2 H2 p' => ⟨xs.length - (i + 1), by omega, rfl, hlt, p'⟩, fun x H2 y => ?_⟩
    obtain ⟨T, w, rfl, nT, rfl, y⟩ := y
    obtain rfl : w = u := Option.some.inj ((y _ s').symm.trans hu)
    have hx := enumF_at 0 xs i (List.getElem?_eq_getElem hlt)
    have c : Chg [] H' (upd H' T (.tup [.int (i : Nat), w])) := Chg.new nT
    have h := hs i _ w σ' H' _ hx c (Ty.ex ru c) p
    have e0 : (0 : Int) + (i : Int) = (i : Int) := Int.zero_add _
    rw [e0] at h
    exact ⟨T, _, rfl, .inl (.inl upd_same), rfl, _, _, rfl, _, _, rfl, rfl, h⟩
  · obtain rfl : i = xs.length := by omega
    exact .inl ⟨⟨vs', s', by rw [pr_len q']; exact Nat.le_refl _⟩, hd σ' H' (by rw [enumF_len]; exact p)⟩
end
end G

namespace G
open PySem PySem.Spec PyProof.Rows L2
section
variable {K : PySem.W.Frag} {σ σ' : L2.St} {H : Hp} {F F1 F2 Fu : List Addr} {ta tb te : TE} {v u x y : V} {i j : Int} {α β : Type} {τ : Ty α} {υ : Ty β} {Q : VK} {D : Ends} {t1 t2 : TS} {g : TG} {ws : List Nat}
theorem st_eq {t : TS} (e : σ = σ') (h : t D σ' H) : t D σ H := e ▸ h
theorem m_popAtG {xs : List α} {p : α × List α} (r : (yLsg τ).rep K H F v xs) (hm : Mi.popAt xs i = some p) (hb : xs.length ≤ Mi.big)
    (k : ∀ u H' Fi, Chg F H H' → τ.rep K H' Fi u p.1 → Sub Fi F → (yLsg τ).rep K H' F v p.2 → Q u H') : rPopAt v [.int i] H Q := by
  obtain ⟨l, vs, G, rfl, rfl, na, g, dm, q⟩ := r
  unfold Mi.popAt at hm
  obtain ⟨j, hj, hm⟩ := Mi.bnd hm
  obtain ⟨y, hy, hm⟩ := Mi.bnd hm
  obtain rfl := Option.some.inj hm
  obtain ⟨u, hu, Fi, ru, sb⟩ := pr_get q hy
  have c : Chg [l] H (upd H l (.lst (vs.eraseIdx j))) := Chg.wr g (fun z => z)
  have kp : ∀ {γ : Type} {ρ : Ty γ} {Fi : List Addr} {w : V} {e : γ}, ρ.rep K H Fi w e → l ∉ Fi → ρ.rep K (upd H l (.lst (vs.eraseIdx j))) Fi w e := fun rr hn => Ty.chg rr c fun b hb z => by
    rw [List.mem_singleton] at z; subst z; exact hn hb
  obtain ⟨h1, h2, h3, h4⟩ := ixN_seq (show L2.ixN vs.length i = some j by rw [pr_len q]; exact hj)
  have hb2 : vs.length ≤ 1000000 := by rw [pr_len q]; exact hb
  refine ⟨l, vs, i, j, u, rfl, rfl, g, by omega, by omega, h1, hu, k u _ Fi (c.mono fun b hb => by rw [List.mem_singleton] at hb; subst hb; exact List.mem_cons_self ..) (kp ru fun hp => na (sb l hp)) (fun b hb => List.mem_cons_of_mem _ (sb b hb)) ⟨l, _, G, rfl, rfl, na, upd_same, fun b hb => ?_, Paired.mapP (pr_erase q j) fun w e z => ?_⟩⟩
  · obtain ⟨o, ho, hf⟩ := dm b hb
    have hbl : b ≠ l := fun z => by subst z; exact na hb
    exact ⟨o, by rw [upd_ne hbl]; exact ho, hf⟩
  · obtain ⟨Fi, rr, s2⟩ := z
    exact ⟨Fi, kp rr fun hp => na (s2 l hp), s2⟩
end
end G
namespace G
open PySem PySem.Spec PyProof.Rows L2
theorem pe_fldk {X : Cx} {K : PySem.W.Frag} {e : Expr} {f : Str} {pos : Pos} {ta : TE} (he : PE X e ta) (hb : attributeBase e f X.env (eval e X.env) = eval e X.env) (hk : X.K = K := by rfl) : PE X (.Attribute e f pos) (tFld K ta f) := by
  subst hk; exact pe_fld he hb
end G

namespace G
open PySem PySem.Spec PyProof.Rows L2
/-! ### texts -/
theorem toS_len (l : List Nat) : (toS l).length = l.length := by simp [toS, Str.length]
theorem toS_tl (l : List Nat) : (toS l).cps.toList = l := by simp [toS]
theorem toS_inj {a b : List Nat} (h : toS a = toS b) : a = b := by rw [← toS_tl a, h, toS_tl]
theorem toS_of {x : Str} {l : List Nat} (h : x.cps.toList = l) : x = toS l := by
  obtain ⟨c⟩ := x
  show Str.mk c = Str.mk l.toArray
  congr 1
  rw [← h]
theorem toS_app (a b : List Nat) : toS a ++ toS b = toS (a ++ b) := toS_of (by
  refine (TL.tl_append (toS a) (toS b)).trans ?_
  show (toS a).cps.toList ++ (toS b).cps.toList = _
  rw [toS_tl, toS_tl])
theorem dTx {a b : List Nat} : decide (V.str (toS a) = V.str (toS b)) = decide (a = b) := by
  by_cases h : a = b
  · subst h; simp
  · rw [decide_eq_false h, decide_eq_false]
    intro z
    exact h (toS_inj (V.str.inj z))
theorem bigS {n : Nat} (h : n ≤ Mi.big) : n ≤ sizeLine := Nat.le_trans h (by decide)
section
variable {X : Cx} {K : PySem.W.Frag} {σ σ' : L2.St} {H : Hp} {F F1 F2 Fu : List Addr} {ta tb te to : TE} {v u x y : V} {i j : Int} {α β : Type} {τ : Ty α} {υ : Ty β} {Q : VK} {D : Ends} {g : TG} {ws : List Nat} {a b c : List Nat} {t tu tt : TT}
theorem val_cS {s : Str} (h : s = toS a) : Val (tC (.str s)) σ H (.str (toS a)) := by subst h; exact val_c
theorem val_eqS (ha : Val ta σ H (.str (toS a))) (hb : Val tb σ H (.str (toS b))) : Val (tOp rEq ta tb) σ H (.bl (decide (a = b))) := val_op ha hb fun Q q => ⟨rfl, by rw [dTx]; exact q⟩
theorem val_neS (ha : Val ta σ H (.str (toS a))) (hb : Val tb σ H (.str (toS b))) : Val (tOp rNe ta tb) σ H (.bl (!decide (a = b))) := val_op ha hb fun Q q => ⟨rfl, by rw [dTx]; exact q⟩
theorem w_eqS (k : Q (.bl (decide (a = b))) H) : rEq (.str (toS a)) (.str (toS b)) H Q := ⟨rfl, by rw [dTx]; exact k⟩
theorem w_neS (k : Q (.bl (!decide (a = b))) H) : rNe (.str (toS a)) (.str (toS b)) H Q := ⟨rfl, by rw [dTx]; exact k⟩
/-- len -/
def rLenT : List V → Hp → VK → Prop := fun xs H Q => ∃ z, xs = [.str z] ∧ z.length ≤ sizeLine ∧ Q (.int z.length) H
theorem cl_lenTx : CallR X (.builtin "len") rLenT := call_len_str
theorem w_lenTx {n : Int} (hm : Mi.sLen a = some n) (k : Q (.int n) H) : rLenT [.str (toS a)] H Q := by
  unfold Mi.sLen at hm
  split at hm
  · obtain rfl := Option.some.inj hm
    exact ⟨_, rfl, by rw [toS_len]; exact bigS (by assumption), by rw [toS_len]; exact k⟩
  · cases hm
theorem val_lenTx {n : Int} (hm : Mi.sLen a = some n) (ha : Val ta σ H (.str (toS a))) : Val (tCB rLenT (tCons ta tNil)) σ H (.int n) := fun Q k => ha _ (w_lenTx hm k)
/-- s[i] -/
theorem w_ixS (hm : Mi.sAt a i = some b) (k : Q (.str (toS b)) H) : rIxS (.str (toS a)) (.int i) H Q := by
  unfold Mi.sAt at hm
  split at hm
  · cases e : Mi.at_ a i with
    | none => rw [e] at hm; cases hm
    | some z =>
      rw [e] at hm
      obtain rfl := Option.some.inj hm
      exact ⟨_, i, z, rfl, rfl, by rw [toS_len]; exact bigS (by assumption), by rw [toS_tl]; exact e, k⟩
  · cases hm
theorem val_ixS (hm : Mi.sAt a i = some b) (ha : Val ta σ H (.str (toS a))) (hb : Val tb σ H (.int i)) : Val (tOp rIxS ta tb) σ H (.str (toS b)) := val_op ha hb fun Q q => w_ixS hm q
/-- s + t -/
theorem op_catS : OpR X (binaryOp .Add) rAddS := op_add_str
theorem w_catS (hm : Mi.sCat a b = some c) (k : Q (.str (toS c)) H) : rAddS (.str (toS a)) (.str (toS b)) H Q := by
  unfold Mi.sCat at hm
  split at hm
  · obtain rfl := Option.some.inj hm
    exact ⟨_, _, rfl, rfl, by rw [toS_len, toS_len]; exact bigS (by assumption), by rw [toS_app]; exact k⟩
  · cases hm
theorem val_catS (hm : Mi.sCat a b = some c) (ha : Val ta σ H (.str (toS a))) (hb : Val tb σ H (.str (toS b))) : Val (tOp rAddS ta tb) σ H (.str (toS c)) := val_op ha hb fun Q q => w_catS hm q
/-- c in s -/
def rInC : R2 := fun x y H Q => ∃ (c : Nat) (z : Str), x = .str ⟨#[c]⟩ ∧ y = .str z ∧ Q (.bl (decide (c ∈ z.cps.toList))) H
def rNiC : R2 := fun x y H Q => ∃ (c : Nat) (z : Str), x = .str ⟨#[c]⟩ ∧ y = .str z ∧ Q (.bl (!decide (c ∈ z.cps.toList))) H
theorem op_in_c : OpR X (compareOp .In) rInC := op_in_sign
theorem op_ni_c : OpR X (compareOp .NotIn) rNiC := op_notIn_sign
theorem sIn_some {k : Bool} (hm : Mi.sIn a b = some k) : ∃ c, a = [c] ∧ decide (c ∈ b) = k := by
  match a, hm with
  | [c], hm => exact ⟨c, rfl, by rw [← List.contains_eq_mem]; exact Option.some.inj hm⟩
theorem w_inC {k : Bool} (hm : Mi.sIn a b = some k) (q : Q (.bl k) H) : rInC (.str (toS a)) (.str (toS b)) H Q := by
  obtain ⟨c, rfl, e⟩ := sIn_some hm
  exact ⟨c, _, rfl, rfl, by rw [toS_tl, e]; exact q⟩
theorem w_niC {k : Bool} (hm : Mi.sIn a b = some k) (q : Q (.bl (!k)) H) : rNiC (.str (toS a)) (.str (toS b)) H Q := by
  obtain ⟨c, rfl, e⟩ := sIn_some hm
  exact ⟨c, _, rfl, rfl, by rw [toS_tl, e]; exact q⟩
theorem val_inC {k : Bool} (hm : Mi.sIn a b = some k) (ha : Val ta σ H (.str (toS a))) (hb : Val tb σ H (.str (toS b))) : Val (tOp rInC ta tb) σ H (.bl k) := val_op ha hb fun Q q => w_inC hm q
theorem val_niC {k : Bool} (hm : Mi.sIn a b = some k) (ha : Val ta σ H (.str (toS a))) (hb : Val tb σ H (.str (toS b))) : Val (tOp rNiC ta tb) σ H (.bl (!k)) := val_op ha hb fun Q q => w_niC hm q
/-- s[lo:hi] -/
theorem sIx_eq (n d : Nat) (o : Option Int) : HT.sIx n d o = Mi.sIx n d o := by
  cases o <;> rfl
theorem w_cutS {lo hi : Option Int} (hm : Mi.sCut a lo hi = some b) (k : Q (.str (toS b)) H) : rSlS (.str (toS a)) lo hi H Q := by
  unfold Mi.sCut at hm
  split at hm
  · obtain rfl := Option.some.inj hm
    refine ⟨_, rfl, by rw [toS_len]; exact bigS (by assumption), ?_⟩
    have e : cutS (toS a) lo hi = toS (Mi.cut a lo hi) := by
      unfold cutS
      rw [toS_tl, toS_len, sIx_eq, sIx_eq]
      rfl
    rw [e]; exact k
  · cases hm
/-- sep.join(xs) -/
def rJoinQ (K : PySem.W.Frag) : V → List V → Hp → VK → Prop := fun x xs H Q => ∃ a p, ∃ ys : List Str, x = .str a ∧ xs = [.ref p] ∧ (SqL K H p (ys.map V.str) ∨ SqT K H p (ys.map V.str)) ∧ (ys.map (·.length)).sum + ys.length * a.length ≤ 16777216 ∧ Q (.str (Txt.join a ys)) H
theorem pe_joinQ {K : PySem.W.Frag} {o e : Expr} {apos pos : Pos} (ho : PE X o to) (he : PE X e te) (hk : X.K = K := by rfl) (hs : starEach [e] X.env = [(false, eval e X.env)] := by rfl) (hbase : attributeBase o "join" X.env (eval o X.env) = eval o X.env := by rfl) (hline : (apos.endLine == pos.line) = true := by rfl) :
    PE X (.Call (.Attribute o "join" apos) [e] [] pos) (tM1 (rJoinQ K) to te) := by subst hk; exact pe_join ho he hs hbase hline
theorem joinL_eq (s : List Nat) : ∀ xs : List (List Nat), TL.joinL s xs = Mi.joinL s xs
  | [] => rfl
  | [_] => rfl
  | p :: q :: r => by
    show p ++ (s ++ TL.joinL s (q :: r)) = p ++ (s ++ Mi.joinL s (q :: r))
    rw [joinL_eq s (q :: r)]
theorem strs_mk : ∀ {vs : List V} {xs : List (List Nat)}, Paired (fun u d => yStr.rep K H [] u d) vs xs → vs = (xs.map toS).map V.str
  | _, _, .nil => rfl
  | _, _, .cons r t => by rw [r.2, strs_mk t]; rfl
theorem w_joinL {xs : List (List Nat)} {sep out : List Nat} (r : (yLst yStr).rep K H F v xs) (hm : Mi.sJoin sep xs = some out) (k : Q (.str (toS out)) H) : rJoinQ K (.str (toS sep)) [v] H Q := by
  obtain ⟨p, vs, rfl, s, q⟩ := lst_sq r
  obtain rfl := strs_mk q
  unfold Mi.sJoin at hm
  split at hm
  · rename_i hz
    obtain rfl := Option.some.inj hm
    refine ⟨_, p, xs.map toS, rfl, rfl, .inl s, ?_, ?_⟩
    · rw [List.map_map, List.length_map, toS_len]
      have e : ((fun x : Str => x.length) ∘ toS) = fun l : List Nat => l.length := by funext l; exact toS_len l
      rw [e]
      exact Nat.le_trans hz (by decide)
    · have e : Txt.join (toS sep) (xs.map toS) = toS (Mi.joinL sep xs) := by
        rw [TL.join_eq]
        refine toS_of ?_
        refine (TL.tl_join (toS sep) (xs.map toS)).trans ?_
        rw [List.map_map]
        have e2 : (fun x : Str => x.cps.toList) ∘ toS = fun l : List Nat => l := by funext l; exact toS_tl l
        show TL.joinL (toS sep).cps.toList (xs.map ((fun x : Str => x.cps.toList) ∘ toS)) = _
        rw [e2, toS_tl, List.map_id', joinL_eq]
      rw [e]; exact k
  · cases hm
theorem w_m1 {r : V → List V → Hp → VK → Prop} (h : to σ H fun x H1 => (∃ a, x = .str a) ∧ te σ H1 fun y H2 => r x [y] H2 Q) : tM1 r to te σ H Q := h
/-- for c in s -/
theorem w_iStr {R : It → Hp → Prop} (h : te σ H fun v H1 => ∃ x, v = .str x ∧ R (Its x) H1) : iStr te σ H R := h
theorem signs_at {s : List Nat} {n c : Nat} (h : s[n]? = some c) : (Mi.signs s)[n]? = some [c] := by
  unfold Mi.signs
  rw [List.getElem?_map, h]; rfl
theorem signs_len (s : List Nat) : (Mi.signs s).length = s.length := List.length_map ..
theorem l_str {tb : TS} {nx : L2.St → Hp → Prop} (Pv : Nat → L2.St → Hp → Prop) (h0 : Pv 0 σ H)
    (hs : ∀ (i : Nat) (x : List Nat) σ' H', (Mi.signs a)[i]? = some x → Pv i σ' H' → g (.str (toS x)) σ' H' fun σ2 H2 => tb { D with nx := Pv (i + 1), ct := Pv (i + 1), bk := nx } σ2 H2) (hd : ∀ σ' H', Pv (Mi.signs a).length σ' H' → nx σ' H') :
    ∃ x, V.str (toS a) = .str x ∧ LoopG (Its x) g tb D nx σ H := by
  have ez : (toS a).cps.size = a.length := toS_len a
  refine ⟨_, rfl, fun i m σ' H' => m = a.length - i ∧ i ≤ a.length ∧ Pv i σ' H', ⟨a.length, by omega, Nat.zero_le _, h0⟩, ?_⟩
  rintro i m σ' H' ⟨rfl, hi, p⟩
  by_cases hlt : i < a.length
  · refine .inr ⟨by show i < (toS a).cps.size; omega, Pv (i + 1), fun σ2 H2 p' => ⟨a.length - (i + 1), by omega, rfl, hlt, p'⟩, fun x H2 y => ?_⟩
    obtain ⟨rfl, z, hz, rfl⟩ := y
    have hz' : a[i]? = some z := by
      have e : (toS a).cps.toList[i]? = some z := by rw [Array.getElem?_toList]; exact hz
      rw [toS_tl] at e; exact e
    exact hs i [z] σ' _ (signs_at hz') p
  · obtain rfl : i = a.length := by omega
    exact .inl ⟨by show (toS a).cps.size ≤ _; omega, hd σ' H' (by rw [signs_len]; exact p)⟩
theorem kc_str (Pv : Addr → Nat → Hp → Prop) (h0 : ∀ D H', H D = none → Chg [] H H' → (yLst τ).rep K H' [D] (.ref D) [] → Pv D 0 H')
    (hs : ∀ D (i : Nat) (x : List Nat) H', (Mi.signs a)[i]? = some x → Pv D i H' → TurnG g tt te ws σ D (Pv D (i + 1)) (.str (toS x)) H') (hd : ∀ D H', H D = none → Pv D (Mi.signs a).length H' → Q (.ref D) H') :
    ∃ x, V.str (toS a) = .str x ∧ CompG (Its x) g tt te ws σ H Q := by
  have ez : (toS a).cps.size = a.length := toS_len a
  refine ⟨_, rfl, comp_by (K := K) (τ := τ) a.length Pv h0 (fun D i H' hi p => ⟨by show i < (toS a).cps.size; omega, fun x H2 y => ?_⟩) (fun D H' hD p => ⟨by show (toS a).cps.size ≤ _; omega, hd D H' hD (by rw [signs_len]; exact p)⟩)⟩
  obtain ⟨rfl, z, hz, rfl⟩ := y
  have hz' : a[i]? = some z := by
    have e : (toS a).cps.toList[i]? = some z := by rw [Array.getElem?_toList]; exact hz
    rw [toS_tl] at e; exact e
  exact hs D i [z] _ (signs_at hz') p
/-- int of a bool -/
theorem val_intB {b : Bool} (ha : Val ta σ H (.bl b)) : Val (tCB rInt1 (tCons ta tNil)) σ H (.int (Mi.bI b)) := fun Q q => ha _ (.inr ⟨b, rfl, by cases b <;> exact q⟩)
theorem w_intB {b : Bool} (k : Q (.int (Mi.bI b)) H) : rInt1 [.bl b] H Q := .inr ⟨b, rfl, by cases b <;> exact k⟩
/-- isinstance of None or data -/
theorem val_isiO {n m : String} {b : Bool} {d : Option α} (ty : ∀ {F x}, τ.rep K H F v x → TyX K H v (.type n)) (r : (yOpt τ).rep K H F v d) (ha : Val ta σ H v) (h1 : kitB n m = some b) (h2 : kitB "NoneType" m = some false) : Val (tCB (rIsi K) (tCons ta (tCons (tC (.ty m)) tNil))) σ H (.bl (d.isSome && b)) := by
  cases d with
  | none =>
    obtain ⟨_, rfl⟩ := r
    exact val_isi ha ty_non h2
  | some x =>
    have := val_isi ha (ty r.2) h1
    rw [show ((some x).isSome && b) = b by cases b <;> rfl]
    exact this
theorem tyr_int {x : Int} (r : yInt.rep K H F v x) : TyX K H v (.type "int") := by obtain ⟨_, rfl⟩ := r; exact ty_int
theorem tyr_bool {x : Bool} (r : yBool.rep K H F v x) : TyX K H v (.type "bool") := by obtain ⟨_, rfl⟩ := r; exact ty_bl
theorem tyr_str {x : List Nat} (r : yStr.rep K H F v x) : TyX K H v (.type "str") := by obtain ⟨_, rfl⟩ := r; exact ty_str
end
/-! ### data with texts -/
structure DatO {α : Type} (τ : Ty α) (n : Nat) where
  f : α → PyData
  ok : α → Bool
  dec : DecidableEq α
  dp : ∀ {K : PySem.W.Frag} {H : Hp} {F : List Addr} {v : V} {d : α}, τ.rep K H F v d → Dp K H v (f d)
  lay : ∀ d, ok d = true → (f d).canLay0 = true
  dpt : ∀ d, (f d).depth ≤ n
  eqv : ∀ d e, PyData.eqv (f d) (f e) = decide (d = e)
def Dat.o {α : Type} {τ : Ty α} {n : Nat} (d : Dat τ n) : DatO τ n := ⟨d.f, fun _ => true, d.dec, d.dp, fun x _ => d.lay x, d.dpt, d.eqv⟩
def dao_str : DatO yStr 0 where
  f := fun l => .str (toS l)
  ok := Mi.okS
  dec := inferInstance
  dp := fun h => by obtain ⟨_, rfl⟩ := h; exact .str _
  lay := fun d h => by
    have e : (toS d).cps = d.toArray := rfl
    simp only [PyData.canLay0, PyData.strOk, e]
    unfold Mi.okS at h
    simpa using h
  dpt := fun d => by simp [PyData.depth]
  eqv := fun d e => by
    simp only [PyData.eqv]
    rw [beq_dec]
    by_cases h : d = e
    · subst h; simp
    · rw [decide_eq_false h, decide_eq_false]
      intro z; exact h (toS_inj z)
section
variable {α β : Type} {τ : Ty α} {n m : Nat}
theorem layAllO {f : α → PyData} {ok : α → Bool} (h : ∀ d, ok d = true → (f d).canLay0 = true) : ∀ xs : List α, xs.all ok = true → PyData.canLayAll0 (xs.map f) = true
  | [], _ => by simp [PyData.canLayAll0]
  | x :: xs, q => by
    rw [List.all_cons, Bool.and_eq_true] at q
    simp [PyData.canLayAll0, h x q.1, layAllO h xs q.2]
def dao_lst (d : DatO τ n) : DatO (yLst τ) (n + 1) where
  f := fun xs => .list (xs.map d.f)
  ok := fun xs => xs.all d.ok
  dec := @instDecidableEqList _ d.dec
  dp := fun h => by
    obtain ⟨a, vs, rfl, s, q⟩ := lst_sq h
    exact .lst s (dpAll (fun u x z => d.dp z) q)
  lay := fun xs h => by simp only [PyData.canLay0]; exact layAllO d.lay xs h
  dpt := fun xs => by simp only [PyData.depth]; exact Nat.succ_le_succ (dptAll d.dpt xs)
  eqv := fun xs ys => by simp only [PyData.eqv]; exact @eqvAllL _ d.dec _ d.eqv xs ys
def dao_lsg (d : DatO τ n) : DatO (yLsg τ) (n + 1) where
  f := fun xs => .list (xs.map d.f)
  ok := fun xs => xs.all d.ok
  dec := @instDecidableEqList _ d.dec
  dp := fun h => by
    obtain ⟨a, vs, rfl, _, s, q⟩ := lsg_sq h
    exact .lst s (dpAll (fun u x z => by obtain ⟨Fi, ru, _⟩ := z; exact d.dp ru) q)
  lay := fun xs h => by simp only [PyData.canLay0]; exact layAllO d.lay xs h
  dpt := fun xs => by simp only [PyData.depth]; exact Nat.succ_le_succ (dptAll d.dpt xs)
  eqv := fun xs ys => by simp only [PyData.eqv]; exact @eqvAllL _ d.dec _ d.eqv xs ys
def dao_tupl (d : DatO τ n) : DatO (yTupL τ) (n + 1) where
  f := fun xs => .tuple (xs.map d.f)
  ok := fun xs => xs.all d.ok
  dec := @instDecidableEqList _ d.dec
  dp := fun h => by
    obtain ⟨a, vs, rfl, s, q⟩ := tupl_sq h
    exact .tup s (dpAll (fun u x z => d.dp z) q)
  lay := fun xs h => by simp only [PyData.canLay0]; exact layAllO d.lay xs h
  dpt := fun xs => by simp only [PyData.depth]; exact Nat.succ_le_succ (dptAll d.dpt xs)
  eqv := fun xs ys => by simp only [PyData.eqv]; exact @eqvAllL _ d.dec _ d.eqv xs ys
end
structure SatO {α : Type} (ts : Tys α) (n : Nat) where
  f : α → List PyData
  ok : α → Bool
  dec : DecidableEq α
  dp : ∀ {K : PySem.W.Frag} {H : Hp} {F : List Addr} {vs : List V} {d : α}, ts.rep K H F vs d → DpAll K H vs (f d)
  lay : ∀ d, ok d = true → PyData.canLayAll0 (f d) = true
  dpt : ∀ d, PyData.depthAll (f d) ≤ n
  eqv : ∀ d e, PyData.eqvAll (f d) (f e) = decide (d = e)
section
variable {α β : Type} {τ : Ty α} {ts : Tys β} {n m : Nat}
def sao_one (d : DatO τ n) : SatO (sOne τ) n where
  f := fun x => [d.f x]
  ok := d.ok
  dec := d.dec
  dp := fun h => by obtain ⟨v, rfl, r⟩ := h; exact .cons (d.dp r) .nil
  lay := fun x h => by simp [PyData.canLayAll0, d.lay x h]
  dpt := fun x => by simp only [PyData.depthAll]; exact Nat.max_le.mpr ⟨d.dpt x, Nat.zero_le _⟩
  eqv := fun x y => by simp [PyData.eqvAll, d.eqv x y]
def sao_cons (d : DatO τ n) (s : SatO ts m) : SatO (sCons τ ts) (max n m) where
  f := fun x => d.f x.1 :: s.f x.2
  ok := fun x => d.ok x.1 && s.ok x.2
  dec := @instDecidableEqProd _ _ d.dec s.dec
  dp := fun h => by obtain ⟨v, ws, F1, F2, rfl, _, r, q⟩ := h; exact .cons (d.dp r) (s.dp q)
  lay := fun x h => by
    rw [Bool.and_eq_true] at h
    simp [PyData.canLayAll0, d.lay x.1 h.1, s.lay x.2 h.2]
  dpt := fun x => by
    simp only [PyData.depthAll]
    have h1 := d.dpt x.1
    have h2 := s.dpt x.2
    omega
  eqv := fun x y => by
    obtain ⟨x1, x2⟩ := x
    obtain ⟨y1, y2⟩ := y
    letI := d.dec
    letI := s.dec
    simp only [PyData.eqvAll, d.eqv x1 y1, s.eqv x2 y2]
    by_cases h1 : x1 = y1
    · by_cases h2 : x2 = y2
      · subst h1 h2; simp
      · have : ¬ ((x1, x2) = (y1, y2)) := fun e => h2 (Prod.mk.inj e).2
        simp only [h2, decide_false, Bool.and_false]
        exact (decide_eq_false this).symm
    · have : ¬ ((x1, x2) = (y1, y2)) := fun e => h1 (Prod.mk.inj e).1
      simp only [h1, decide_false, Bool.false_and]
      exact (decide_eq_false this).symm
def dao_tup (s : SatO ts m) : DatO (yTup ts) (m + 1) where
  f := fun x => .tuple (s.f x)
  ok := s.ok
  dec := s.dec
  dp := fun h => by obtain ⟨a, vs, rfl, sq, q⟩ := h; exact .tup sq (s.dp q)
  lay := fun x h => by simp only [PyData.canLay0]; exact s.lay x h
  dpt := fun x => by simp only [PyData.depth]; exact Nat.succ_le_succ (s.dpt x)
  eqv := fun x y => by simp only [PyData.eqv]; exact s.eqv x y
theorem DatO.shaped (d : DatO τ n) (hn : n ≤ 64) (x : α) (h : d.ok x = true) : SeqAt.shaped (d.f x) = true := by
  unfold SeqAt.shaped
  rw [d.lay x h, decide_eq_true (Nat.le_trans (d.dpt x) hn)]
  rfl
variable {K : PySem.W.Frag} {H : Hp} {F1 F2 : List Addr} {v u : V} {Q : VK} {x y : α}
theorem okB {a b : Bool} {z : Unit} (h : Mi.guardO (a && b) = some z) : a = true ∧ b = true := by
  unfold Mi.guardO at h
  split at h
  · rename_i q; rw [Bool.and_eq_true] at q; exact q
  · cases h
theorem w_eqO [i : DecidableEq α] {z : Unit} (d : DatO τ n) (r : τ.rep K H F1 v x) (q : τ.rep K H F2 u y) (g : Mi.guardO (d.ok x && d.ok y) = some z) (k : Q (.bl (decide (x = y))) H) (hn : n ≤ 64 := by decide) : rEqD K v u H Q :=
  ⟨_, _, d.dp r, d.dp q, d.shaped hn x (okB g).1, d.shaped hn y (okB g).2, by
    have e : @decide (x = y) (d.dec x y) = @decide (x = y) (i x y) := by congr
    rw [d.eqv, e]; exact k⟩
theorem w_neO [i : DecidableEq α] {z : Unit} (d : DatO τ n) (r : τ.rep K H F1 v x) (q : τ.rep K H F2 u y) (g : Mi.guardO (d.ok x && d.ok y) = some z) (k : Q (.bl (!decide (x = y))) H) (hn : n ≤ 64 := by decide) : rNeD K v u H Q :=
  ⟨_, _, d.dp r, d.dp q, d.shaped hn x (okB g).1, d.shaped hn y (okB g).2, by
    have e : @decide (x = y) (d.dec x y) = @decide (x = y) (i x y) := by congr
    rw [d.eqv, e]; exact k⟩
end
end G

namespace G
open PySem PySem.Spec PyProof.Rows L2
/-! ### a list that owns its items: no two of them share a cell -/
inductive Par3 {α : Type} (R : V → List Addr → α → Prop) : List V → List (List Addr) → List α → Prop
  | nil : Par3 R [] [] []
  | cons {u : V} {Fi : List Addr} {x : α} {vs : List V} {Fs : List (List Addr)} {xs : List α} : R u Fi x → Par3 R vs Fs xs → Par3 R (u :: vs) (Fi :: Fs) (x :: xs)
theorem Par3.mapP {α : Type} {R S : V → List Addr → α → Prop} : ∀ {vs Fs} {xs : List α}, Par3 R vs Fs xs → (∀ u Fi x, Fi ∈ Fs → R u Fi x → S u Fi x) → Par3 S vs Fs xs
  | _, _, _, .nil, _ => .nil
  | _, _, _, .cons r t, h => .cons (h _ _ _ (List.mem_cons_self ..) r) (Par3.mapP t fun u Fi x m => h u Fi x (List.mem_cons_of_mem _ m))
theorem Par3.len {α : Type} {R : V → List Addr → α → Prop} : ∀ {vs Fs} {xs : List α}, Par3 R vs Fs xs → vs.length = xs.length ∧ Fs.length = xs.length
  | _, _, _, .nil => ⟨rfl, rfl⟩
  | _, _, _, .cons r t => by
    have := Par3.len t
    simp [this.1, this.2]
theorem Par3.get {α : Type} {R : V → List Addr → α → Prop} : ∀ {vs Fs} {xs : List α} (_ : Par3 R vs Fs xs) {j : Nat} {x : α}, xs[j]? = some x → ∃ u Fi, vs[j]? = some u ∧ Fs[j]? = some Fi ∧ R u Fi x
  | _, _, _, .nil, j, x, h => by simp at h
  | _, _, _, .cons (u := u) (Fi := Fi) r t, 0, x, h => by
    obtain rfl := Option.some.inj h
    exact ⟨u, Fi, rfl, rfl, r⟩
  | _, _, _, .cons r t, j + 1, x, h => Par3.get t (j := j) h
theorem Par3.pr {α : Type} {R : V → List Addr → α → Prop} {S : V → α → Prop} : ∀ {vs Fs} {xs : List α}, Par3 R vs Fs xs → (∀ u Fi x, Fi ∈ Fs → R u Fi x → S u x) → Paired S vs xs
  | _, _, _, .nil, _ => .nil
  | _, _, _, .cons r t, h => .cons (h _ _ _ (List.mem_cons_self ..) r) (Par3.pr t fun u Fi x m => h u Fi x (List.mem_cons_of_mem _ m))
/-- the j-th item changed, the others apart from what changed -/
theorem Par3.setAt {α : Type} {R S : V → List Addr → α → Prop} : ∀ {vs Fs} {xs : List α} (_ : Par3 R vs Fs xs) {j : Nat} {u : V} {Fi : List Addr} {y : α}, vs[j]? = some u → Fs[j]? = some Fi → S u Fi y → (∀ (k : Nat) u' Fk x, k ≠ j → Fs[k]? = some Fk → R u' Fk x → S u' Fk x) → Par3 S vs Fs (xs.set j y)
  | _, _, _, .nil, j, u, Fi, y, h, _, _, _ => by simp at h
  | _, _, _, .cons r t, 0, u, Fi, y, h1, h2, hs, ho => by
    obtain rfl := Option.some.inj h1
    obtain rfl := Option.some.inj h2
    refine .cons hs (Par3.mapP' t fun k u' Fk x hk hr => ho (k + 1) u' Fk x (by omega) hk hr)
  | _, _, _, .cons (u := u0) (Fi := F0) r t, j + 1, u, Fi, y, h1, h2, hs, ho => .cons (ho 0 _ _ _ (by omega) rfl r) (Par3.setAt t (j := j) h1 h2 hs fun k u' Fk x hk hf hr => ho (k + 1) u' Fk x (by omega) hf hr)
where
  Par3.mapP' {α : Type} {R S : V → List Addr → α → Prop} : ∀ {vs Fs} {xs : List α}, Par3 R vs Fs xs → (∀ (k : Nat) u Fk x, Fs[k]? = some Fk → R u Fk x → S u Fk x) → Par3 S vs Fs xs
  | _, _, _, .nil, _ => .nil
  | _, _, _, .cons r t, h => .cons (h 0 _ _ _ rfl r) (Par3.mapP' t fun k u Fk x hk => h (k + 1) u Fk x hk)
def yOwn {α : Type} (τ : Ty α) : Ty (List α) where
  rep K H F v xs := ∃ a vs Fs, v = .ref a ∧ F = a :: Fs.flatten ∧ (a :: Fs.flatten).Nodup ∧ H a = some (.lst vs) ∧ Par3 (fun u Fi x => τ.rep K H Fi u x) vs Fs xs
  keep {K H H' F v xs} h k := by
    obtain ⟨a, vs, Fs, e, rfl, nd, g, r⟩ := h
    exact ⟨a, vs, Fs, e, rfl, nd, k a _ g (.inl (List.mem_cons_self ..)), Par3.mapP r fun u Fi x m q => τ.keep q fun b o hb z => k b o hb (z.imp (fun y => List.mem_cons_of_mem _ (List.mem_flatten.mpr ⟨Fi, m, y⟩)) id)⟩
  dom {K H F v xs} h b m := by
    obtain ⟨a, vs, Fs, e, rfl, nd, g, r⟩ := h
    rcases List.mem_cons.mp m with rfl | m
    · exact ⟨_, g, fun z => z⟩
    · obtain ⟨Fi, hF, hb⟩ := List.mem_flatten.mp m
      obtain ⟨j, hj⟩ := List.getElem?_of_mem hF
      have hl := Par3.len r
      have hjl : j < xs.length := by
        have := (List.getElem?_eq_some_iff.mp hj).1
        omega
      obtain ⟨u, F', _, hF', ru⟩ := Par3.get r (List.getElem?_eq_getElem hjl)
      rw [hj] at hF'
      obtain rfl := Option.some.inj hF'
      exact τ.dom ru b hb
section
variable {K : PySem.W.Frag} {σ σ' : L2.St} {H : Hp} {F F1 F2 Fu : List Addr} {ta tb te : TE} {v u x y : V} {i j : Int} {α β : Type} {τ : Ty α} {υ : Ty β} {Q : VK}
theorem own_lsg {xs : List α} (r : (yOwn τ).rep K H F v xs) : (yLsg τ).rep K H F v xs := by
  have hd := (yOwn τ).dom r
  obtain ⟨a, vs, Fs, e, rfl, nd, g, q⟩ := r
  exact ⟨a, vs, Fs.flatten, e, rfl, (List.nodup_cons.mp nd).1, g, fun b hb => hd b (List.mem_cons_of_mem _ hb), Par3.pr q fun u Fi x m ru => ⟨Fi, ru, fun b hb => List.mem_flatten.mpr ⟨Fi, m, hb⟩⟩⟩
theorem own_nil {p : Addr} {υ : Ty β} (r : (yLst υ).rep K H [p] (.ref p) []) : (yOwn τ).rep K H [p] (.ref p) [] := by
  obtain ⟨a, vs, e, f, g, q⟩ := r
  obtain rfl := V.ref.inj e
  cases q
  exact ⟨p, [], [], rfl, rfl, List.nodup_cons.mpr ⟨List.not_mem_nil, List.nodup_nil⟩, g, .nil⟩
theorem Par3.snoc {R : V → List Addr → α → Prop} {u : V} {Fi : List Addr} {x : α} : ∀ {vs Fs} {xs : List α}, Par3 R vs Fs xs → R u Fi x → Par3 R (vs ++ [u]) (Fs ++ [Fi]) (xs ++ [x])
  | _, _, _, .nil, h => .cons h .nil
  | _, _, _, .cons r t, h => .cons r (Par3.snoc t h)
/-- an item goes in, with cells of its own -/
theorem m_appO {xs ys : List α} {d : α} (r : (yOwn τ).rep K H F v xs) (ru : τ.rep K H Fu u d) (dj : Dj F Fu) (nu : Fu.Nodup) (hm : Mi.app xs d = some ys)
    (k : ∀ H' F', Chg F H H' → (yOwn τ).rep K H' F' v ys → Sub F F' → Sub F' (F ++ Fu) → Q .non H') : rAppend v [u] H Q := by
  obtain ⟨p, vs, Fs, rfl, rfl, nd, g, q⟩ := r
  have np : p ∉ Fu := dj p (List.mem_cons_self ..)
  have hpf := (List.nodup_cons.mp nd).1
  unfold Mi.app at hm
  split at hm
  · rename_i hz
    cases hm
    have c : Chg [p] H (upd H p (.lst (vs ++ [u]))) := Chg.wr g (fun z => z)
    have kp : ∀ {γ : Type} {ρ : Ty γ} {Fi : List Addr} {w : V} {e : γ}, ρ.rep K H Fi w e → p ∉ Fi → ρ.rep K (upd H p (.lst (vs ++ [u]))) Fi w e := fun rr hn => Ty.chg rr c fun b hb z => by
      rw [List.mem_singleton] at z; subst z; exact hn hb
    have ef : (Fs ++ [Fu]).flatten = Fs.flatten ++ Fu := by simp
    refine ⟨p, vs, u, rfl, rfl, g, Nat.lt_of_lt_of_le (by rw [(Par3.len q).1]; exact hz) line_big, k _ (p :: (Fs ++ [Fu]).flatten) (c.mono fun b hb => by rw [List.mem_singleton] at hb; subst hb; exact List.mem_cons_self ..) ⟨p, _, Fs ++ [Fu], rfl, rfl, ?_, upd_same, Par3.snoc (Par3.mapP q fun w Fi e m z => kp z fun hp => hpf (List.mem_flatten.mpr ⟨Fi, m, hp⟩)) (kp ru np)⟩ ?_ ?_⟩
    · rw [ef]
      refine List.nodup_cons.mpr ⟨fun hp => (List.mem_append.mp hp).elim hpf np, List.nodup_append.mpr ⟨(List.nodup_cons.mp nd).2, nu, fun b hb b' hb' e => ?_⟩⟩
      subst e
      exact dj b (List.mem_cons_of_mem _ hb) hb'
    · intro b hb
      rw [ef]
      rcases List.mem_cons.mp hb with rfl | hb
      · exact List.mem_cons_self ..
      · exact List.mem_cons_of_mem _ (List.mem_append_left _ hb)
    · intro b hb
      rw [ef] at hb
      rcases List.mem_cons.mp hb with rfl | hb
      · exact List.mem_append_left _ (List.mem_cons_self ..)
      · rcases List.mem_append.mp hb with hb | hb
        · exact List.mem_append_left _ (List.mem_cons_of_mem _ hb)
        · exact List.mem_append_right _ hb
  · cases hm
theorem e_appO {D : Addr} {N : Hp → Prop} {xs ys : List α} {d : α} (r : (yOwn τ).rep K H F (.ref D) xs) (ru : τ.rep K H Fu u d) (dj : Dj F Fu) (nu : Fu.Nodup) (hm : Mi.app xs d = some ys)
    (k : ∀ H' F', Chg F H H' → (yOwn τ).rep K H' F' (.ref D) ys → Sub F F' → Sub F' (F ++ Fu) → N H') : AppG D N u H := by
  have h := m_appO (Q := fun _ H' => N H') r ru dj nu hm k
  obtain ⟨l, xs', y, e, e2, g, hz, q⟩ := h
  obtain rfl := V.ref.inj e
  obtain rfl : u = y := by simpa using e2
  exact ⟨xs', g, hz, q⟩
theorem lst_nd {xs : List α} (r : (yLst τ).rep K H F v xs) : F.Nodup := by
  obtain ⟨a, vs, _, rfl, _⟩ := r
  exact List.nodup_cons.mpr ⟨List.not_mem_nil, List.nodup_nil⟩
theorem own_nd {xs : List α} (r : (yOwn τ).rep K H F v xs) : F.Nodup := by
  obtain ⟨a, vs, Fs, _, rfl, nd, _⟩ := r
  exact nd
theorem flat_apart {Fs : List (List Addr)} (nd : Fs.flatten.Nodup) {j k : Nat} {A B : List Addr} (hj : Fs[j]? = some A) (hk : Fs[k]? = some B) (hne : k ≠ j) {b : Addr} (h1 : b ∈ A) : b ∉ B := by
  induction Fs generalizing j k with
  | nil => simp at hj
  | cons G Fs ih =>
    rw [List.flatten_cons, List.nodup_append] at nd
    match j, k with
    | 0, 0 => omega
    | 0, k + 1 =>
      obtain rfl := Option.some.inj hj
      exact fun h2 => nd.2.2 b h1 b (List.mem_flatten.mpr ⟨B, List.mem_of_getElem? (show Fs[k]? = some B from hk), h2⟩) rfl
    | j + 1, 0 =>
      obtain rfl := Option.some.inj hk
      exact fun h2 => nd.2.2 b h2 b (List.mem_flatten.mpr ⟨A, List.mem_of_getElem? (show Fs[j]? = some A from hj), h1⟩) rfl
    | j + 1, k + 1 => exact ih nd.2.1 (j := j) (k := k) hj hk (by omega)
/-- an item that changes in place -/
theorem itm_O {xs : List (List β)} {x : List β} (r : (yOwn (yLst υ)).rep K H F v xs) (h : Mi.at_ xs i = some x) :
    ∃ u, tyV K "list" u H ∧ (∀ {Q : VK}, Q u H → rIxL K v (.int i) H Q) ∧ (∀ {σ : L2.St} {ta tb : TE}, Val ta σ H v → Val tb σ H (.int i) → Val (tOp (rIxL K) ta tb) σ H u) ∧
      ∀ {e : V} {d : β} {ys : List (List β)} {Q : VK}, υ.rep K H [] e d → Mi.appIn xs i d = some ys → (∀ H', Chg F H H' → (yOwn (yLst υ)).rep K H' F v ys → Q .non H') → rAppend u [e] H Q := by
  obtain ⟨a, vs, Fs, rfl, rfl, nd, g, q⟩ := r
  have hl := (Par3.len q).1
  unfold Mi.at_ at h
  obtain ⟨n, hn, hx⟩ := Mi.bnd h
  obtain ⟨u, Fi, hu, hF, ru⟩ := Par3.get q hx
  have hat : atI vs i = some u := by
    show (L2.ixN vs.length i).bind _ = _
    have e : L2.ixN vs.length i = some n := by rw [hl]; exact hn
    rw [e]; exact hu
  have k : ∀ {Q : VK}, Q u H → rIxL K (.ref a) (.int i) H Q := fun z => ⟨a, vs, i, u, rfl, rfl, .inl (.inl g), hat, z⟩
  refine ⟨u, tyv_lst ru, k, fun ha hb => val_op ha hb fun Q z => k z, fun {e d ys Q} re hm z => ?_⟩
  unfold Mi.appIn at hm
  obtain ⟨n', hn', hm⟩ := Mi.bnd hm
  obtain rfl : n = n' := Option.some.inj (hn.symm.trans hn')
  obtain ⟨row, hrow, hm⟩ := Mi.bnd hm
  obtain rfl : x = row := Option.some.inj (hx.symm.trans hrow)
  obtain ⟨zs, hz, hm⟩ := Mi.bnd hm
  obtain rfl := Option.some.inj hm
  refine m_app ru re hz fun H' c r' => z H' (c.mono fun b hb => List.mem_cons_of_mem _ (List.mem_flatten.mpr ⟨Fi, List.mem_of_getElem? hF, hb⟩)) ⟨a, vs, Fs, rfl, rfl, nd, ?_, Par3.setAt q hu hF r' fun m u' Fk x' hm' hFk rk => Ty.chg rk c fun b hb hb2 => ?_⟩
  · have ha : a ∉ Fi := fun hb => (List.nodup_cons.mp nd).1 (List.mem_flatten.mpr ⟨Fi, List.mem_of_getElem? hF, hb⟩)
    exact c.keep a _ g (.inl ha)
  · exact flat_apart (List.nodup_cons.mp nd).2 hF hFk hm' hb2 hb
end
end G

/-! ### sets of tuples of ints, up to 75 of them: asked for and added to -/
namespace L2
open PySem PySem.Spec PyProof.Rows
section
variable {P : Program} {w : World} {A : Around} {E : Value → Shared → Prop} {s : Shared} {a : Addr} {L : List (Addr × List Int)} {es : Array (Int × Value)} {ep : Nat} {t : SetTable}
structure SetB (P : Program) (w : World) (h : Heap) (a : Addr) (L : List (Addr × List Int)) (es : Array (Int × Value)) (ep : Nat) (t : SetTable) : Prop where
  obj : ∃ o, h.get? a = some o ∧ o.ExactSet ∧ o.data = .set es ep t
  rws : es.toList = rowsOf P w L
  tb : TabOk t (L.map fun p => thash P w p.2)
  ndp : (L.map (·.2)).Nodup
  tps : ∀ p ∈ L, IsT P w h p.2 p.1
  pln : t.plain = true
  ld : w.params.followText "set-order" = true ∨ t.led = true
  rm : L.length * 5 < t.mask * 3
theorem SetB.of {h : Heap} (R : SetTR P w h a L es ep t) : SetB P w h a L es ep t := ⟨R.ob, R.rows, R.tab, R.nd, R.tup, R.plain, R.led, R.room⟩
theorem SetB.small {h : Heap} (R : SetB P w h a L es ep t) (hl : L.length < 64) : SetTR P w h a L es ep t := ⟨R.obj, R.rws, R.tb, R.ndp, R.tps, R.pln, R.ld, R.rm, hl⟩
theorem SetB.sz {h : Heap} (R : SetB P w h a L es ep t) : es.size = L.length := by
  have z := congrArg List.length R.rws
  simpa [rowsOf] using z
theorem SetB.ft {h : Heap} (R : SetB P w h a L es ep t) : t.fits es.size = true := by
  have z1 := R.tb.sz
  have z2 := R.sz
  have z3 := R.rm
  rw [List.length_map] at z1
  simp only [SetTable.fits, SetTable.fill, R.tb.dm, Bool.and_eq_true, beq_iff_eq, decide_eq_true_eq]
  refine ⟨by omega, ?_⟩
  show t.place.size + 0 ≤ t.mask
  omega
theorem SetB.ent {h : Heap} (R : SetB P w h a L es ep t) {i : Nat} {p : Addr × List Int} (hp : L[i]? = some p) : es[i]? = some (thash P w p.2, Value.ref p.1) := by
  have z : es.toList[i]? = some (thash P w p.2, Value.ref p.1) := by
    rw [R.rws, rowsOf, List.getElem?_map, hp]; rfl
  rw [Array.getElem?_toList] at z; exact z
theorem SetB.noGive {h : Heap} (R : SetB P w h a L es ep t) : ¬ t.gaveWay = true := by
  rw [SetTable.gaveWay, mask_odd R.tb.mok]; decide
abbrev wy (P : Program) (w : World) (t : SetTable) (k : List Int) (c : Nat) : Nat := way t.mask (thash P w k) c
abbrev stp (P : Program) (w : World) (t : SetTable) (k : List Int) (c : Nat) : SetTable.Probe := nth t.mask (runAt t.mask (SetTable.bits (thash P w k) % (t.mask + 1)) (SetTable.bits (thash P w k))) c
theorem nth_dm (m : Nat) : ∀ (n : Nat) (p : SetTable.Probe), p.dummy = none → (nth m p n).dummy = none
  | 0, _, h => h
  | n + 1, p, h => nth_dm m n (adv m p) (by unfold adv; split <;> exact h)
/-- the search, asked by a question or by an adding (ad) -/
theorem SetB.srch (R : SetB P w s.heap a L es ep t) {x : Addr} {k : List Int} (hx : IsT P w s.heap k x) (hu : A.units < cLine) (ad : Bool) {K : Nat} (hKf : K < 10 * SetTable.turns t.mask)
    (hK : wy P w t k K ∉ t.place.toList) (hKb : ∀ c, c < K → wy P w t k c ∈ t.place.toList) {Q : SetFound → Shared → Prop}
    (yes : k ∈ L.map (·.2) → ∀ r : Option Nat, (ad = false → r.isSome = true) → Q (.there r) s) (no : k ∉ L.map (·.2) → Q (.free (wy P w t k K) false) s) :
    ∀ (f c : Nat) (st : Option SetTable.Probe), st.getD (t.probeStart (thash P w k)) = stp P w t k c → c ≤ K → K - c < f →
      (∀ (i : Nat) p, L[i]? = some p → p.2 = k → ∃ c', c ≤ c' ∧ c' < K ∧ t.place.toList[i]? = some (wy P w t k c')) → wpAny (model P w) A (setSearchFrom a (.ref x) (thash P w k) ad f st) Q E s := by
  intro f
  induction f with
  | zero => intro c st _ _ hf _; exact absurd hf (Nat.not_lt_zero _)
  | succ f ih =>
    intro c st hst hc hf hre
    obtain ⟨o, ho, hex, hd⟩ := R.obj
    rw [setSearchFrom_succ]
    refine wpAny_bind (wpAny_setState_of ho hd R.ft ?_)
    dsimp only
    refine wp_if_neg R.noGive ?_
    try refine wpAny_bind (wpAny_pure ?_)
    have sh : ∀ q, nth t.mask (stp P w t k c) q = stp P w t k (c + q) := fun q => (nth_add t.mask c _ q).symm
    have ej : ∀ q, (nth t.mask (stp P w t k c) q).j = wy P w t k (c + q) := fun q => congrArg SetTable.Probe.j (sh q)
    have eK : c + (K - c) = K := by omega
    have hh : ∀ (i : Nat) p, L[i]? = some p → (fun i => (es[i]?.map (·.1)).getD 0) i = thash P w p.2 := fun i p hp => by
      show (es[i]?.map (·.1)).getD 0 = _
      rw [R.ent hp]; rfl
    have spec := go_spec t R.tb.ris R.tb.dm (fun i => (es[i]?.map (·.1)).getD 0) (thash P w k) (10 * SetTable.turns t.mask) (K - c) (stp P w t k c) (nth_dm _ _ _ rfl) (by omega) (fun q hq => by rw [ej]; exact hKb (c + q) (by omega)) (by rw [ej, eK]; exact hK)
    rcases spec with ⟨q, i, hq, hi, _, hno, hpr⟩ | ⟨hno, hpr⟩
    · have hp1 : t.probe (fun i => (es[i]?.map (·.1)).getD 0) (thash P w k) (st.getD (t.probeStart (thash P w k))) = some (.candidate (wy P w t k (c + q)) i (stp P w t k (c + (q + 1)))) := by
        rw [hst, ← ej, ← sh]; exact hpr
      rw [hp1]
      dsimp only
      rw [ej] at hi
      have hil : i < L.length := by
        have z1 : i < t.place.toList.length := (List.getElem?_eq_some_iff.mp hi).1
        have z2 := R.tb.sz
        rw [List.length_map] at z2
        rw [Array.length_toList] at z1
        omega
      obtain ⟨p, hp⟩ : ∃ p, L[i]? = some p := ⟨L[i], List.getElem?_eq_getElem hil⟩
      have hm := List.mem_of_getElem? hp
      have hsl : t.slot (wy P w t k (c + q)) = .live i := slot_live R.tb.ris hi
      have more : wpAny (model P w) A (searchRest a (.ref x) (thash P w k) ad f es t (wy P w t k (c + q)) i (stp P w t k (c + (q + 1)))) Q E s := by
        unfold searchRest
        rw [R.ent hp]
        dsimp only
        refine wpAny_bind (wpAny_holding (wpAny_eqBool_tuple hu (R.tps p hm) hx ?_))
        refine wpAny_bind (wpAny_setState_of ho hd R.ft ?_)
        dsimp only
        by_cases hkk : p.2 = k
        · have hin := List.mem_map.mpr ⟨p, hm, hkk⟩
          cases ad with
          | true =>
            refine wp_if_pos (by simp [hkk]) ?_
            exact wpAny_pure (yes hin none fun z => by cases z)
          | false =>
            refine wp_if_neg (by simp) ?_
            try refine wpAny_bind (wpAny_pure ?_)
            rw [sameMem]
            dsimp only
            simp only [if_true, hsl, R.ent hp]
            refine wpAny_bind (wpAny_isSame_ref_self (wpAny_bind (wpAny_pure ?_)))
            simp only [if_true]
            refine wp_if_pos (by simp [hkk]) ?_
            exact wpAny_pure (yes hin (some i) fun _ => rfl)
        · refine wp_if_neg (by simp [hkk]) ?_
          try refine wpAny_bind (wpAny_pure ?_)
          rw [sameMem]
          dsimp only
          simp only [if_true, hsl, R.ent hp]
          refine wpAny_bind (wpAny_isSame_ref_self (wpAny_bind (wpAny_pure ?_)))
          simp only [if_true]
          refine wp_if_neg (by simp [hkk]) ?_
          refine ih (c + (q + 1)) _ rfl (by omega) (by omega) fun i0 p0 h0 hk0 => ?_
          obtain ⟨c', a1, a2, a3⟩ := hre i0 p0 h0 hk0
          refine ⟨c', ?_, a2, a3⟩
          rcases Nat.lt_or_ge c' (c + (q + 1)) with z | z
          · exfalso
            rcases Nat.lt_or_ge c' (c + q) with z2 | z2
            · exact hno (c' - c) i0 (by omega) (by rw [ej, show c + (c' - c) = c' by omega]; exact a3) ((hh i0 p0 h0).trans (congrArg (thash P w) hk0))
            · obtain rfl : c' = c + q := by omega
              have s0 := slot_live R.tb.ris a3
              rw [hsl] at s0
              injection s0 with s0
              rw [← s0, hp] at h0
              exact hkk ((congrArg Prod.snd (Option.some.inj h0)).trans hk0)
          · exact z
      by_cases hl : t.led = true
      · refine wp_if_neg (by simp [hl]) ?_
        try refine wpAny_bind (wpAny_pure ?_)
        exact more
      · refine wp_if_pos (by simp [hl]) ?_
        refine wpAny_bind (seen_tup hx (fun y hy => ?_) ?_)
        · obtain ⟨e, he, ee⟩ := List.mem_map.mp hy
          have he2 : e ∈ es.toList := by
            have z : e ∈ es ∧ e.1 = thash P w k := by simpa using he
            simpa using z.1
          rw [R.rws] at he2
          obtain ⟨p2, hp2, e2⟩ := List.mem_map.mp he2
          exact ⟨p2.2, p2.1, by rw [← ee, ← e2], R.tps p2 hp2⟩
        · refine wp_if_neg (by decide) ?_
          try refine wpAny_bind (wpAny_pure ?_)
          exact more
    · have hp1 : t.probe (fun i => (es[i]?.map (·.1)).getD 0) (thash P w k) (st.getD (t.probeStart (thash P w k))) = some (.empty (wy P w t k K) none) := by
        have e2 : wy P w t k K = (nth t.mask (stp P w t k c) (K - c)).j := by rw [ej, eK]
        rw [hst, e2]; exact hpr
      rw [hp1]
      dsimp only
      refine wpAny_pure (no fun hm => ?_)
      obtain ⟨p0, h0, hk0⟩ := List.mem_map.mp hm
      obtain ⟨i0, h00⟩ := List.getElem?_of_mem h0
      obtain ⟨c', a1, a2, a3⟩ := hre i0 p0 h00 hk0
      exact hno (c' - c) i0 (by omega) (by rw [ej, show c + (c' - c) = c' by omega]; exact a3) ((hh i0 p0 h00).trans (congrArg (thash P w) hk0))
theorem SetB.search (R : SetB P w s.heap a L es ep t) {x : Addr} {k : List Int} (hx : IsT P w s.heap k x) (hu : A.units < cLine) (ad : Bool) {Q : SetFound → Shared → Prop}
    (yes : k ∈ L.map (·.2) → ∀ r : Option Nat, (ad = false → r.isSome = true) → Q (.there r) s)
    (no : ∀ K, k ∉ L.map (·.2) → wy P w t k K ∉ t.place.toList → (∀ c, c < K → wy P w t k c ∈ t.place.toList) → Q (.free (wy P w t k K) false) s) : wpAny (model P w) A (setSearch a (.ref x) (thash P w k) ad) Q E s := by
  have hr := R.rm
  obtain ⟨K, hKf, hK, hKb⟩ := R.tb.first (by rw [List.length_map]; omega) (thash P w k)
  have hbig : K < 100000 := by
    have : 10 * SetTable.turns t.mask ≤ 1420 := by
      unfold SetTable.turns
      rcases R.tb.mok with e | e | e <;> omega
    omega
  unfold setSearch
  refine R.srch hx hu ad hKf hK hKb yes (fun hn => no K hn hK hKb) 100000 0 none rfl (Nat.zero_le _) (by omega) fun i p hp hk => ?_
  have hi : (L.map fun p => thash P w p.2)[i]? = some (thash P w k) := by rw [List.getElem?_map, hp, ← hk]; rfl
  have hil : i < t.place.toList.length := by
    have z1 : i < L.length := (List.getElem?_eq_some_iff.mp hp).1
    have z2 := R.tb.sz
    rw [List.length_map] at z2
    rw [Array.length_toList]; omega
  have hj := List.getElem?_eq_getElem hil
  obtain ⟨c, hc, e⟩ := R.tb.before hK hi hj
  exact ⟨c, Nat.zero_le _, hc, hj.trans (congrArg some e.symm)⟩
/-- adding to a table that has room for 128 -/
theorem SetB.addBig (R : SetB P w s.heap a L es ep t) {x : Addr} {k : List Int} (hx : IsT P w s.heap k x) (hu : A.units < cLine) (hm7 : t.mask = 127) (hfew : L.length + 1 < 76) {Q : Bool → Shared → Prop}
    (hQ : ∀ b h' L' es' ep' t', Heap.SameBut a s.heap h' → SetB P w h' a L' es' ep' t' → (k ∈ L.map (·.2) → L' = L) → (k ∉ L.map (·.2) → L'.Perm ((x, k) :: L)) → Q b { s with heap := h' }) :
    wpAny (model P w) A (setAddHashed a (.ref x) (thash P w k)) Q E s := by
  obtain ⟨o, ho, hex, hd⟩ := R.obj
  have hsl := R.sz
  unfold setAddHashed
  refine wpAny_holding ?_
  rw [show (100000 : Nat) = 99999 + 1 from rfl, setAddHashedIn_succ]
  refine wpAny_bind (wpAny_setState_of ho hd R.ft ?_)
  dsimp only
  refine wp_if_neg (by simp [byScan, Value.scannable]) ?_
  try refine wpAny_bind (wpAny_pure ?_)
  refine wpAny_bind (R.search hx hu true (fun hm r _ => ?_) fun K hm hK hb => ?_)
  · dsimp only
    exact wpAny_pure (hQ false s.heap L es ep t (Heap.SameBut.refl a s.heap) R (fun _ => rfl) fun z => absurd hm z)
  · dsimp only
    refine wpAny_bind (wpAny_setState_of ho hd R.ft ?_)
    dsimp only
    obtain ⟨q1, q2, q3, q4, q5, q6, q7, q8, q9⟩ := R.tb.put hK hb
    have hp1 : (t.put (wy P w t k K)).1.plain = true := by rw [q6]; exact R.pln
    generalize hpt : t.put (wy P w t k K) = pt at q1 q3 q4 q5 q6 q7 q8 q9 hp1 ⊢
    obtain ⟨t1, p⟩ := pt
    dsimp only at q1 q3 q4 q5 q6 q7 q8 q9 hp1 ⊢
    subst q1
    first
      | (refine wpAny_bind ?_; refine wp_if_pos hp1 ?_; refine hashBy_tup hx ?_)
      | refine wp_if_pos hp1 (wpAny_bind (hashBy_tup hx ?_))
    simp only [if_true]
    have hin : (SetTable.insertAt es (SetTable.below t.place (wy P w t k K)) (thash P w k, Value.ref x)).toList = rowsOf P w (L.take (SetTable.below t.place (wy P w t k K)) ++ (x, k) :: L.drop (SetTable.below t.place (wy P w t k K))) := by
      rw [SetTable.toList_insertAt, rows_put, R.rws]
    generalize hpp : SetTable.below t.place (wy P w t k K) = p at q2 q3 hin ⊢
    have pm := put_perm L p (x, k)
    have hlen : (L.take p ++ (x, k) :: L.drop p).length = L.length + 1 := pm.length_eq
    have hhs : (L.take p ++ (x, k) :: L.drop p).map (fun p => thash P w p.2) = (L.map fun p => thash P w p.2).take p ++ thash P w k :: (L.map fun p => thash P w p.2).drop p := by
      rw [List.map_append, List.map_cons, List.map_take, List.map_drop]
    rw [← hhs] at q3
    have nd1 : ((L.take p ++ (x, k) :: L.drop p).map (·.2)).Nodup := (pm.map (·.2)).nodup_iff.mpr (List.nodup_cons.mpr ⟨hm, R.ndp⟩)
    have hes : (SetTable.insertAt es p (thash P w k, Value.ref x)).size = L.length + 1 := by
      have z := congrArg List.length hin
      rw [rowsOf, Array.length_toList, List.length_map, hlen] at z
      exact z
    generalize SetTable.insertAt es p (thash P w k, Value.ref x) = es1 at hin hes ⊢
    generalize L.take p ++ (x, k) :: L.drop p = L1 at pm hlen q3 nd1 hin
    refine wpAny_bind (wpAny_storeSet_of ho hd ?_ (by rw [hes, sizeLine_eq]; omega))
    have sb : Heap.SameBut a s.heap (s.heap.update a (Obj.putSet es1 t1)) := Heap.SameBut.update ..
    have ho1 := store_at (es' := es1) (t' := t1) ho hd
    generalize s.heap.update a (Obj.putSet es1 t1) = h1 at sb ho1 ⊢
    have tup1 : ∀ p ∈ L1, IsT P w h1 p.2 p.1 := fun p hp => by
      rcases List.mem_cons.mp (pm.mem_iff.mp hp) with e | hp
      · rw [e]; exact isT_same hx ho hd sb
      · exact isT_same (R.tps p hp) ho hd sb
    have hf : ¬ t1.tooFull = true := fun z => by
      unfold SetTable.tooFull at z
      rw [decide_eq_true_eq, q9, List.length_map, q4, hm7] at z
      omega
    first
      | refine wp_if_neg (by simp [hf]) ?_
      | (refine wpAny_bind ?_; refine wp_if_neg (by simp [hf]) ?_; refine wpAny_pure ?_)
    refine wpAny_pure (hQ true h1 L1 es1 (ep + 1) t1 sb ⟨⟨_, ho1, ⟨hex.1, hex.2.1, hex.2.2⟩, rfl⟩, hin, q3, nd1, tup1, hp1, by rw [q5]; exact R.ld, ?_⟩ (fun z => absurd z hm) fun _ => pm)
    rw [hlen, q4, hm7]; omega
theorem SetB.add (R : SetB P w s.heap a L es ep t) {x : Addr} {k : List Int} (hx : IsT P w s.heap k x) (hu : A.units < cLine) (hfew : L.length + 1 < 76) {Q : Bool → Shared → Prop}
    (hQ : ∀ b h' L' es' ep' t', Heap.SameBut a s.heap h' → SetB P w h' a L' es' ep' t' → (k ∈ L.map (·.2) → L' = L) → (k ∉ L.map (·.2) → L'.Perm ((x, k) :: L)) → Q b { s with heap := h' }) :
    wpAny (model P w) A (setAddHashed a (.ref x) (thash P w k)) Q E s := by
  by_cases h : L.length + 1 < 64
  · exact add_at (R.small (by omega)) hx hu h fun b h' L' es' ep' t' sb R' => hQ b h' L' es' ep' t' sb (.of R')
  · refine R.addBig hx hu ?_ hfew hQ
    have z := R.rm
    rcases R.tb.mok with e | e | e <;> omega
end
end L2

namespace L2
open PySem PySem.Spec PyProof.Rows
structure SetB0 (P : Program) (w : World) (h : Heap) (a : Addr) (L : List (Addr × List Int)) : Prop where
  has : ∃ (es : Array (Int × Value)) (ep : Nat) (t : SetTable), (∃ o, h.get? a = some o ∧ o.ExactSet ∧ o.data = .set es ep t) ∧ es.toList = rowsOf P w L ∧ TabOk t (L.map fun p => thash P w p.2) ∧ (L.map (·.2)).Nodup ∧ t.plain = true ∧
    (w.params.followText "set-order" = true ∨ t.led = true) ∧ L.length * 5 < t.mask * 3
def SetBO (P : Program) (w : World) (a : Addr) (L : List (Addr × List Int)) : HO := .ext fun h => SetB0 P w h a L
section
variable {P : Program} {w : World} {h : Heap} {a : Addr} {L : List (Addr × List Int)} {es : Array (Int × Value)} {ep : Nat} {t : SetTable}
theorem SetB.bare (R : SetB P w h a L es ep t) : SetB0 P w h a L := ⟨es, ep, t, R.obj, R.rws, R.tb, R.ndp, R.pln, R.ld, R.rm⟩
theorem SetB0.whole (R : SetB0 P w h a L) (ht : ∀ p ∈ L, IsT P w h p.2 p.1) : ∃ es ep t, SetB P w h a L es ep t := by
  obtain ⟨es, ep, t, x1, x2, x3, x4, x5, x6, x7⟩ := R.has
  exact ⟨es, ep, t, x1, x2, x3, x4, ht, x5, x6, x7⟩
theorem setBO_new {H : Hp} (R : SetB0 P w h a L) : ObjOk P w H h a (SetBO P w a L) := by
  have ⟨es, ep, t, ⟨o, ho, _⟩, _⟩ := R.has
  refine ⟨R, ⟨o, ho⟩, fun g1 g2 p k => ?_⟩
  obtain ⟨es', ep', t', ⟨o', ho', r'⟩, q'⟩ := SetB0.has p
  exact ⟨es', ep', t', ⟨o', k o' ho', r'⟩, q'⟩
end
section
variable {X : Cx}
theorem setBO_get {pins : List (Addr × Obj)} {σ : St} {H : Hp} {s : Shared} {a : Addr} {L : List (Addr × List Int)} (I : Inv X pins σ H s) (ha : H a = some (SetBO X.prog X.w a L)) (ht : ∀ p ∈ L, SqT X.K H p.1 (p.2.map V.int)) : ∃ es ep t, SetB X.prog X.w s.heap a L es ep t :=
  SetB0.whole (I.hok a _ ha).1 fun p hp => I.isT (ht p hp)
/-- set() -/
def rSetB0 (P : Program) (w : World) : List V → Hp → VK → Prop := fun xs H Q => xs = [] ∧ ∀ p, H p = none → Q (.ref p) (upd H p (SetBO P w p []))
theorem cr_setB0 : CallR X (.type "set") (rSetB0 X.prog X.w) := by
  intro pins s σ H xs us Q I r h
  obtain ⟨rfl, q⟩ := h
  cases r
  refine setR_new fun _ => ?_
  have nw := (SetB.of (setTR_fresh (P := X.prog) (w := X.w) (h := s.heap.push { cls := .type "set", dict := none, data := .set #[] 0 (.fresh 0 0 (!X.w.params.followText "set-order")) }) (a := s.heap.objs.size) (Heap.get?_push_size _ rfl))).bare
  exact ⟨.ref _, upd H s.heap.objs.size (SetBO X.prog X.w s.heap.objs.size []), I.laid (t' := s.toks) (fun b u e => Heap.get?_push_of_some _ e) (Nat.le_refl _) (setBO_new nw), rfl, q _ (I.hok.fresh (Nat.le_refl _))⟩
theorem B_find {P : Program} {w : World} {A : Around} {E : Value → Shared → Prop} {s : Shared} {a : Addr} {L : List (Addr × List Int)} {es : Array (Int × Value)} {ep : Nat} {t : SetTable} (R : SetB P w s.heap a L es ep t) {x : Addr} {k : List Int} (hx : IsT P w s.heap k x) (hu : A.units < cLine) {Q : Option Nat → Shared → Prop}
    (h : ∀ r : Option Nat, r.isSome = decide (k ∈ L.map (·.2)) → Q r s) : wpAny (model P w) A (setFind a (.ref x) (thash P w k)) Q E s := by
  obtain ⟨o, ho, hex, hd⟩ := R.obj
  unfold setFind setFindIn
  refine wpAny_bind (wpAny_setState_of ho hd R.ft ?_)
  dsimp only
  refine wp_if_neg (by simp [byScan, Value.scannable]) ?_
  try refine wpAny_bind (wpAny_pure ?_)
  refine wpAny_bind (R.search hx hu false (fun hm r hr => ?_) fun K hm _ _ => ?_)
  · dsimp only
    exact wpAny_pure (h r (by rw [hr rfl, decide_eq_true hm]))
  · dsimp only
    exact wpAny_pure (h none (by rw [decide_eq_false hm]; rfl))
/-- t in s -/
def rBIn (K : PySem.W.Frag) (P : Program) (w : World) : V → V → Hp → VK → Prop := fun x y H Q => ∃ (b a : Addr) (k : List Int) (L : List (Addr × List Int)), x = V.ref b ∧ y = V.ref a ∧ SqT K H b (k.map V.int) ∧ H a = some (SetBO P w a L) ∧ (∀ p ∈ L, SqT K H p.1 (p.2.map V.int)) ∧ Q (.bl (decide (k ∈ L.map (·.2)))) H
theorem op_bin (hu : X.A.units + 64 < cLine) : OpR X (compareOp .In) (rBIn X.K X.prog X.w) := by
  intro pins s σ H x y v u Q I rx ry h
  obtain ⟨b, a, k, L, rfl, rfl, hb, ha, ht, q⟩ := h
  cases rx
  cases ry
  obtain ⟨es, ep, t, R⟩ := setBO_get I ha ht
  have hx := I.isT hb
  obtain ⟨o, ho, hex, hd⟩ := R.obj
  have hT : s.TypeIs (.ref a) "set" := ⟨o, ho, hex.1⟩
  show wpAny _ _ (do return Value.bool (← contains (.ref a) (.ref b))) _ _ s
  refine wpAny_bind ?_
  unfold contains
  try with_reducible refine wpAny_holding ?_
  refine wpAny_bind (wpAny_specialOf hT F.slot_set_contains.lookup ?_)
  show wpAny _ _ (if (some (Value.builtin "set.__contains__") == some Value.none) = true then _ else _) _ _ s
  rw [if_neg (by rw [beq_builtin_none]; exact Bool.false_ne_true)]
  refine wpAny_bind (wpAny_callSpecialUnlessNone?_slot (name := Str.ofString "__contains__") hT F.slot_set_contains (wpAny_call_entry F.slot_set_contains hT entry_set_contains ?_ (F.args_set_contains_2 _ _)))
  unfold Builtin.«frozenset.__contains__» Builtin.Frozenset.oneOther
  simp only [List.isEmpty_nil, bind_assoc]
  unfold Builtin.Frozenset.addrOf Builtin.Frozenset.withSetAsKey setContains
  refine wpAny_bind (wpAny_pure ?_)
  try dsimp only
  refine wpAny_bind (wpAny_pure ?_)
  try dsimp only
  refine wpAny_bind (wpAny_tryCatch ?_)
  refine wpAny_holding ?_
  refine wpAny_bind (wpAny_pyHash_tuple (by show X.A.units + _ < cLine; omega) hx ?_)
  have fin : ∀ r : Option Nat, r.isSome = decide (k ∈ L.map (·.2)) → Q (.bl r.isSome) H := fun r e => by rw [e]; exact q
  refine wpAny_bind (B_find (s := { s with toks := s.toks + (k.length + 1) }) R hx (by show X.A.units + _ < cLine; omega) fun r hr => ?_)
  refine wpAny_pure ?_
  show wpAny _ _ (ret (Value.bool r.isSome)) _ _ _
  exact wpAny_pure ⟨_, rfl, wpAny_truthy_bool (wpAny_pure ⟨.bl r.isSome, H, I.tok _, rfl, fin r hr⟩)⟩
/-- s.add(t) -/
def rBAdd (K : PySem.W.Frag) (P : Program) (w : World) : V → List V → Hp → VK → Prop := fun x xs H Q => ∃ (a b : Addr) (k : List Int) (L : List (Addr × List Int)), x = V.ref a ∧ xs = [V.ref b] ∧ SqT K H b (k.map V.int) ∧ H a = some (SetBO P w a L) ∧ (∀ p ∈ L, SqT K H p.1 (p.2.map V.int)) ∧ L.length + 1 < 76 ∧
  ∀ L', (k ∈ L.map (·.2) → L' = L) → (k ∉ L.map (·.2) → L'.Perm ((b, k) :: L)) → Q .non (upd H a (SetBO P w a L'))
theorem mt_badd (hu : X.A.units + 64 < cLine) : MtR X "set.add" (rBAdd X.K X.prog X.w) := by
  intro pins s σ H x xs v us Q I rx rxs h
  obtain ⟨a, b, k, L, rfl, rfl, hb, ha, ht, hf, q⟩ := h
  cases rx
  cases rxs with
  | cons ry rt =>
    cases rt
    cases ry
    obtain ⟨es, ep, t, R⟩ := setBO_get I ha ht
    have hx := I.isT hb
    obtain ⟨o, ho, hex, hd⟩ := R.obj
    have hT : s.TypeIs (.ref a) "set" := ⟨o, ho, hex.1⟩
    refine wpAny_call_entry F.slot_set_add hT F.entry_set_add ?_ (F.args_set_add_2 _ _)
    unfold Builtin.«set.add» Builtin.Frozenset.oneOther
    simp only [List.isEmpty_nil, bind_assoc]
    unfold Builtin.Frozenset.addrOf setAdd
    refine wpAny_bind (wpAny_pure ?_)
    try dsimp only
    refine wpAny_bind (wpAny_pure ?_)
    try dsimp only
    refine wpAny_bind ?_
    refine wpAny_holding ?_
    refine wpAny_bind (wpAny_pyHash_tuple (by show X.A.units + _ < cLine; omega) hx ?_)
    refine SetB.add (s := { s with toks := s.toks + (k.length + 1) }) R hx (by show X.A.units + _ < cLine; omega) hf fun b' h' L' es' ep' t' sb R' c1 c2 => ?_
    show wpAny _ _ (ret Value.none) _ _ _
    have he : ∃ u, h'.get? a = some u := by
      obtain ⟨o', ho', _⟩ := R'.obj
      exact ⟨o', ho'⟩
    exact wpAny_pure ⟨_, rfl, .non, upd H a (SetBO X.prog X.w a L'), I.write (e := a) (t' := s.toks + (k.length + 1)) (by rw [ha]; trivial) (.inl rfl) (fun c u hc hu => (sb.2 c hc).trans hu) he (setBO_new R'.bare), rfl, q L' c1 c2⟩
def tBAdd (K : PySem.W.Frag) (P : Program) (w : World) (to : TE) (t : TA) : TE := fun σ H Q => to σ H fun x H1 => (∃ a L, x = V.ref a ∧ H1 a = some (SetBO P w a L)) ∧ t σ H1 fun xs H2 => rBAdd K P w x xs H2 Q
variable {o e : Expr} {es : List Expr} {to : TE} {t : TA} {apos cpos : Pos}
theorem pe_badd (hu : X.A.units + 64 < cLine) (ho : PE X o to) (ha : PA X (e :: es) t)
    (hbase : attributeBase o "add" X.env (eval o X.env) = eval o X.env := by rfl)
    (hfew : ((backTo cpos (starEach (e :: es) X.env)).all (fun x => !x.1) && (backToKw cpos (keywordEach [] X.env)).all (fun x => x.1.isSome)
      && decide ((e :: es).length + ([] : List Keyword).length + (if ([] : List Keyword).isEmpty then 0 else 1) < 30)) = true := by rfl)
    (hline : (apos.endLine == cpos.line) = true := by rfl) (hs : starEach (e :: es) X.env = (false, eval e X.env) :: starEach es X.env := by rfl) (hplain : (backTo cpos (starEach es X.env)).any (·.1) = false := by rfl) :
    PE X (.Call (.Attribute o "add" apos) (e :: es) [] cpos) (tBAdd X.K X.prog X.w to t) := by
  refine ⟨fun pins s σ H Q I h => ?_⟩
  refine wpAny_Call_method_late hbase hfew hline rfl (thn (ho.run pins s σ H _ I h) fun v s1 ⟨x, H1, I1, r1, ty, q1⟩ => ?_)
  obtain ⟨a, L, rfl, hka⟩ := ty
  cases r1
  obtain ⟨es0, ep, tt, ⟨ob, hob, hex, hd⟩, _⟩ := SetB0.has (I1.hok a _ hka).1
  have hT : s1.TypeIs (.ref a) "set" := ⟨ob, hob, hex.1⟩
  refine ⟨"set", "set.add", F.plainAttrs_set, F.slot_set_add, F.type_set_add, hT, fun b hb => by injection hb with hb; subst hb; exact ⟨ob, hob, hex.2.1⟩, ?_⟩
  have hA := ha.run cpos pins s1 σ H1 _ I1 q1
  rw [hs] at hA ⊢
  refine Calls.callWith_builtin (by show (false || (backTo cpos (starEach es X.env)).any (·.1)) = false; rw [hplain] <;> rfl) (Calls.evalArgs_plain ?_)
  exact thn hA fun us s2 ⟨vs, H2, I2, r2, q2⟩ => mt_badd hu pins s2 σ H2 (.ref a) vs (.ref a) us Q I2 rfl r2 q2
end
end L2

namespace L2
open PySem PySem.Spec PyProof.Rows
def PrAt (K : PySem.W.Frag) (H : Hp) (x : V) (d : Int × Int) : Prop := ∃ t, x = V.ref t ∧ SqT K H t [.int d.1, .int d.2]
/-- sorted(xs), xs a list of pairs of ints -/
def rSortP (K : PySem.W.Frag) : List V → Hp → VK → Prop := fun vs H Q => ∃ (a : Addr) (xs : List V) (ds : List (Int × Int)), vs = [V.ref a] ∧ SqL K H a xs ∧ Paired (PrAt K H) xs ds ∧
  ∀ ys es p, Paired (PrAt K H) ys es → es.Perm ds → es.Pairwise (fun a b => Mi.leP a b = true) → H p = none → Q (.ref p) (upd H p (.lst ys))
section
variable {X : Cx} {pins : List (Addr × Obj)} {σ : St} {H : Hp} {s : Shared}
theorem prAt_inj (I : Inv X pins σ H s) {x : V} {d e : Int × Int} (h1 : PrAt X.K H x d) (h2 : PrAt X.K H x e) : d = e := by
  obtain ⟨t, rfl, s1⟩ := h1
  obtain ⟨t', e2, s2⟩ := h2
  obtain rfl := V.ref.inj e2
  have z := I.tuple_inj s1 s2
  simp only [List.cons.injEq, V.int.injEq, and_true] at z
  exact Prod.ext z.1 z.2
open Classical in
noncomputable def prOf (K : PySem.W.Frag) (H : Hp) (u : V) : Int × Int := if h : ∃ d, PrAt K H u d then h.choose else (0, 0)
theorem prOf_eq (I : Inv X pins σ H s) {x : V} {d : Int × Int} (r : PrAt X.K H x d) : prOf X.K H x = d := by
  have h : ∃ d, PrAt X.K H x d := ⟨d, r⟩
  unfold prOf
  rw [dif_pos h]
  exact prAt_inj I h.choose_spec r
theorem prs_map (I : Inv X pins σ H s) {vs : List V} {xs : List (Int × Int)} (q : Paired (PrAt X.K H) vs xs) : vs.map (prOf X.K H) = xs := by
  induction q with
  | nil => rfl
  | cons r t ih => rw [List.map_cons, prOf_eq I r, ih]
theorem prs_back (I : Inv X pins σ H s) {vs : List V} (h : ∀ u ∈ vs, ∃ d, PrAt X.K H u d) : Paired (PrAt X.K H) vs (vs.map (prOf X.K H)) := by
  induction vs with
  | nil => exact .nil
  | cons u vs ih =>
    obtain ⟨d, hd⟩ := h u (List.mem_cons_self ..)
    exact .cons (by rw [prOf_eq I hd]; exact hd) (ih fun u' m => h u' (List.mem_cons_of_mem _ m))
theorem prs_mem {α : Type} {R : V → α → Prop} {vs : List V} {xs : List α} (q : Paired R vs xs) : ∀ u ∈ vs, ∃ d, R u d := by
  induction q with
  | nil => exact fun u m => nomatch m
  | cons r t ih =>
    intro u m
    rcases List.mem_cons.mp m with rfl | m
    · exact ⟨_, r⟩
    · exact ih u m
theorem leP_iff {a b : Int × Int} : Mi.leP a b = true ↔ (a.1 < b.1 ∨ (a.1 = b.1 ∧ a.2 ≤ b.2)) := by unfold Mi.leP; exact decide_eq_true_iff
theorem cr_sortP : CallR X (.builtin "sorted") (rSortP X.K) := by
  intro pins s σ H vs us Q I r h
  obtain ⟨a, xs, ds, rfl, hsq, hx, q⟩ := h
  have hd := prs_mem hx
  obtain ⟨its, rv, hl, hz⟩ := I.list hsq
  obtain ⟨u, rfl, ru⟩ := vals1 r
  obtain rfl : u = Value.ref a := ru
  obtain ⟨e1, e2⟩ := refs_back rv fun x m => by
    obtain ⟨d, t, e, _⟩ := hd x m
    exact ⟨t, e⟩
  refine SrtO.sorted_pairsO (k := fun u => prOf X.K H (backV u)) hl.isList (by rw [← rv.length]; exact hz) (fun v hv => ?_) fun h' d out h1 h2 kp hd' hn => ?_
  · obtain ⟨t, rfl⟩ := e2 v hv
    have hm : V.ref t ∈ xs := by rw [e1]; exact List.mem_map.mpr ⟨_, hv, rfl⟩
    obtain ⟨d, hp⟩ := hd _ hm
    have ep : prOf X.K H (backV (Value.ref t)) = d := prOf_eq I hp
    obtain ⟨t', e, ht⟩ := hp
    cases e
    obtain ⟨its2, r2, ⟨o, ho, hc, n, hd2⟩, _⟩ := I.tuple ht
    obtain ⟨u1, u2, rfl, ri, rj⟩ := vals2 r2
    obtain ⟨t1, rfl⟩ := ri
    obtain ⟨t2, rfl⟩ := rj
    refine ⟨t, o, t1, t2, n, rfl, ho, hc, ?_⟩
    rw [ep]; exact hd2
  · have h3 : ∀ u ∈ out, ∃ a, u = Value.ref a := fun u hu => e2 u (h2.perm.mem_iff.mp hu)
    obtain ⟨n, hn⟩ := hn
    have hb : (out.map backV).Perm xs := by rw [e1]; exact h2.perm.map backV
    refine ⟨.ref d, upd H d (.lst (out.map backV)), I.laid (t' := s.toks) kp hd' ⟨?_, out, n, vals_back h3, hn⟩, rfl, q _ _ d (prs_back I fun u m => hd u (hb.mem_iff.mp m)) ?_ ?_ (I.hok.fresh hd')⟩
    · rw [hb.length_eq]; exact hz
    · rw [← prs_map I hx]; exact hb.map _
    · rw [List.pairwise_map, List.pairwise_map]
      refine List.Pairwise.imp (fun {u u'} z => ?_) h1
      rw [leP_iff]
      have := SrtO.lexB_no.mp z
      omega
end
end L2
namespace G
open PySem PySem.Spec PyProof.Rows L2
abbrev yPair : Ty (Int × Int) := yTup (sCons yInt (sOne yInt))
section
variable {X : Cx} {P : Program} {w : World} {K : PySem.W.Frag} {σ σ' : L2.St} {H : Hp} {F F1 F2 Fu : List Addr} {ta tb te to : TE} {v u x y : V} {i j : Int} {Q : VK}
theorem pair_sq {d : Int × Int} (r : yPair.rep K H F v d) : F = [] ∧ ∃ a, v = .ref a ∧ SqT K H a [.int d.1, .int d.2] := by
  obtain ⟨a, vs, rfl, s, q⟩ := r
  obtain ⟨v1, ws, F1, F2, rfl, rfl, q1, q2⟩ := q
  obtain ⟨v2, rfl, q2⟩ := q2
  obtain ⟨rfl, rfl⟩ := q1
  obtain ⟨rfl, rfl⟩ := q2
  exact ⟨rfl, a, rfl, s⟩
theorem pair_mk {a : Addr} {d : Int × Int} (s : SqT K H a [.int d.1, .int d.2]) : yPair.rep K H [] (.ref a) d := ⟨a, _, rfl, s, _, _, [], [], rfl, rfl, ⟨rfl, rfl⟩, _, rfl, rfl, rfl⟩
/-! ### sorted pairs -/
theorem cl_sortP {K : PySem.W.Frag} (e : X.K = K := by rfl) : CallR X (.builtin "sorted") (rSortP K) := by subst e; exact cr_sortP
theorem leP_uniq : ∀ {xs ys : List (Int × Int)}, xs.Perm ys → xs.Pairwise (fun a b => Mi.leP a b = true) → ys.Pairwise (fun a b => Mi.leP a b = true) → xs = ys
  | [], ys, p, _, _ => p.nil_eq
  | x :: xs, [], p, _, _ => absurd p.length_eq (by simp)
  | x :: xs, y :: ys, p, h1, h2 => by
    have hx := List.pairwise_cons.mp h1
    have hy := List.pairwise_cons.mp h2
    have e : x = y := by
      have a1 : y ∈ x :: xs := p.mem_iff.mpr (List.mem_cons_self ..)
      have a2 : x ∈ y :: ys := p.mem_iff.mp (List.mem_cons_self ..)
      rcases List.mem_cons.mp a1 with z | z
      · exact z.symm
      · rcases List.mem_cons.mp a2 with q | q
        · exact q
        · have b1 := leP_iff.mp (hx.1 y z)
          have b2 := leP_iff.mp (hy.1 x q)
          exact Prod.ext (by omega) (by omega)
    subst e
    rw [leP_uniq (List.Perm.cons_inv p) hx.2 hy.2]
theorem sortP_pw (xs : List (Int × Int)) : (Mi.sortP xs).Pairwise (fun a b => Mi.leP a b = true) :=
  List.pairwise_mergeSort (le := Mi.leP) (fun a b c h1 h2 => by rw [leP_iff] at *; omega) (fun a b => by rw [Bool.or_eq_true, leP_iff, leP_iff]; omega) xs
theorem pair_at {d : Int × Int} : yPair.rep K H [] u d ↔ PrAt K H u d := by
  constructor
  · intro r
    obtain ⟨_, a, e, s⟩ := pair_sq r
    exact ⟨a, e, s⟩
  · rintro ⟨a, rfl, s⟩
    exact pair_mk s
theorem w_sortedP {xs : List (Int × Int)} (r : (yLst yPair).rep K H F v xs) (k : ∀ p H', H p = none → Chg [] H H' → (yLst yPair).rep K H' [p] (.ref p) (Mi.sortP xs) → Q (.ref p) H') : rSortP K [v] H Q := by
  obtain ⟨a, vs, rfl, s, q⟩ := lst_sq r
  refine ⟨a, vs, xs, rfl, s, Paired.mapP q fun _ _ z => pair_at.mp z, fun ys es p hp pm so np => ?_⟩
  have e : es = Mi.sortP xs := leP_uniq (pm.trans (List.mergeSort_perm _ _).symm) so (sortP_pw xs)
  subst e
  exact k p _ np (Chg.new np) ⟨p, ys, rfl, rfl, upd_same, Paired.mapP hp fun _ _ z => Ty.ex (pair_at.mpr z) (Chg.new np)⟩
/-! ### sets of pairs -/
def ySetP (P : Program) (w : World) : Ty (List (Int × Int)) where
  rep K H F v xs := ∃ a L, v = .ref a ∧ F = [a] ∧ H a = some (SetBO P w a L) ∧ (∀ p ∈ L, SqT K H p.1 (p.2.map V.int)) ∧ L.length = xs.length ∧ ∀ k : Int × Int, [k.1, k.2] ∈ L.map (·.2) ↔ k ∈ xs
  keep {K H H' F v xs} h k := by
    obtain ⟨a, L, e, rfl, g, t, l, m⟩ := h
    exact ⟨a, L, e, rfl, k a _ g (.inl (List.mem_singleton.mpr rfl)), fun p hp => SqT.keeps (t p hp) fun b o hb z => k b o hb (.inr z), l, m⟩
  dom {K H F v xs} h b m := by
    obtain ⟨a, L, e, rfl, g, _⟩ := h
    rw [List.mem_singleton] at m; subst m
    exact ⟨_, g, fun z => z⟩
theorem cl_setP0 {P : Program} {w : World} (e : X.prog = P := by rfl) (e2 : X.w = w := by rfl) : CallR X (.type "set") (rSetB0 P w) := by subst e e2; exact cr_setB0
theorem w_setP0 (k : ∀ p H', H p = none → Chg [] H H' → (ySetP P w).rep K H' [p] (.ref p) [] → Q (.ref p) H') : rSetB0 P w [] H Q := ⟨rfl, fun p np => k p _ np (Chg.new np) ⟨p, [], rfl, rfl, upd_same, (fun q hq => absurd hq List.not_mem_nil), rfl, (fun k => ⟨fun z => absurd z List.not_mem_nil, fun z => absurd z List.not_mem_nil⟩)⟩⟩
theorem op_inP {K : PySem.W.Frag} {P : Program} {w : World} (hu : X.A.units + 64 < cLine) (e0 : X.K = K := by rfl) (e : X.prog = P := by rfl) (e2 : X.w = w := by rfl) : OpR X (compareOp .In) (rBIn K P w) := by subst e0 e e2; exact op_bin hu
theorem w_inP {xs : List (Int × Int)} {d : Int × Int} (r : (ySetP P w).rep K H F v xs) (ru : yPair.rep K H Fu u d) (k : Q (.bl (xs.contains d)) H) : rBIn K P w u v H Q := by
  obtain ⟨a, L, rfl, rfl, g, t, l, m⟩ := r
  obtain ⟨_, b, rfl, s⟩ := pair_sq ru
  refine ⟨b, a, [d.1, d.2], L, rfl, rfl, s, g, t, ?_⟩
  have e : decide ([d.1, d.2] ∈ L.map (·.2)) = xs.contains d := by
    rw [List.contains_eq_mem]
    exact decide_eq_decide.mpr (m d)
  rw [e]; exact k
theorem w_badd {ts : TA} (h : to σ H fun x H1 => (∃ a L, x = V.ref a ∧ H1 a = some (SetBO P w a L)) ∧ ts σ H1 fun xs H2 => rBAdd K P w x xs H2 Q) : tBAdd K P w to ts σ H Q := h
theorem tyv_setP {xs : List (Int × Int)} (r : (ySetP P w).rep K H F v xs) : ∃ a L, v = V.ref a ∧ H a = some (SetBO P w a L) := by
  obtain ⟨a, L, rfl, rfl, g, _⟩ := r
  exact ⟨a, L, rfl, g⟩
theorem m_saddP {xs ys : List (Int × Int)} {d : Int × Int} (r : (ySetP P w).rep K H F v xs) (ru : yPair.rep K H Fu u d) (hm : Mi.saddP xs d = some ys) (k : ∀ H', Chg F H H' → (ySetP P w).rep K H' F v ys → Q .non H') : rBAdd K P w v [u] H Q := by
  obtain ⟨a, L, rfl, rfl, g, t, l, m⟩ := r
  obtain ⟨_, b, rfl, s⟩ := pair_sq ru
  unfold Mi.saddP at hm
  split at hm
  · rename_i hz
    obtain rfl := Option.some.inj hm
    refine ⟨a, b, [d.1, d.2], L, rfl, rfl, s, g, t, by omega, fun L' c1 c2 => ?_⟩
    have c : Chg [a] H (upd H a (SetBO P w a L')) := Chg.wr g (fun z => z)
    have kt : ∀ {b' : Addr} {vs : List V}, SqT K H b' vs → SqT K (upd H a (SetBO P w a L')) b' vs := fun sq => SqT.keeps sq fun b o hb z => c.keep b o hb (.inr z)
    by_cases hc : d ∈ xs
    · have e := c1 ((m d).mpr hc)
      rw [if_pos (show xs.contains d = true by rw [List.contains_eq_mem]; exact decide_eq_true hc)] at k
      exact k _ c ⟨a, L', rfl, rfl, upd_same, fun p hp => kt (t p (e ▸ hp)), by rw [e]; exact l, by rw [e]; exact m⟩
    · have pm := c2 fun z => hc ((m d).mp z)
      rw [if_neg (show ¬ xs.contains d = true by rw [List.contains_eq_mem, decide_eq_false hc]; exact Bool.false_ne_true)] at k
      refine k _ c ⟨a, L', rfl, rfl, upd_same, fun p hp => ?_, by rw [pm.length_eq, List.length_cons, List.length_append, l]; rfl, fun q => ?_⟩
      · rcases List.mem_cons.mp (pm.mem_iff.mp hp) with rfl | hp
        · exact kt s
        · exact kt (t p hp)
      · rw [(pm.map (·.2)).mem_iff, List.map_cons, List.mem_cons, m q, List.mem_append, List.mem_singleton]
        constructor
        · rintro (z | z)
          · simp only [List.cons.injEq, and_true] at z
            exact .inr (Prod.ext z.1 z.2)
          · exact .inl z
        · rintro (z | rfl)
          · exact .inr z
          · exact .inl rfl
  · cases hm
theorem pe_saddP {K : PySem.W.Frag} {P : Program} {w : World} {o e : Expr} {es : List Expr} {t : TA} {apos cpos : Pos} (hu : X.A.units + 64 < cLine) (ho : PE X o to) (ha : PA X (e :: es) t) (e0 : X.K = K := by rfl) (e1 : X.prog = P := by rfl) (e2 : X.w = w := by rfl)
    (hbase : attributeBase o "add" X.env (eval o X.env) = eval o X.env := by rfl)
    (hfew : ((backTo cpos (starEach (e :: es) X.env)).all (fun x => !x.1) && (backToKw cpos (keywordEach [] X.env)).all (fun x => x.1.isSome)
      && decide ((e :: es).length + ([] : List Keyword).length + (if ([] : List Keyword).isEmpty then 0 else 1) < 30)) = true := by rfl)
    (hline : (apos.endLine == cpos.line) = true := by rfl) (hs : starEach (e :: es) X.env = (false, eval e X.env) :: starEach es X.env := by rfl) (hplain : (backTo cpos (starEach es X.env)).any (·.1) = false := by rfl) :
    PE X (.Call (.Attribute o "add" apos) (e :: es) [] cpos) (tBAdd K P w to t) := by subst e0 e1 e2; exact pe_badd hu ho ha hbase hfew hline hs hplain
end
end G

namespace G
open PySem PySem.Spec PyProof.Rows L2
theorem pg_tupk {X : Cx} {K : PySem.W.Frag} {es : List Expr} {k : Nat} {t : TGs} {n : Nat} {pos : Pos} (hc : X.calm = true) (h : PGs X es t) (e : X.K = K := by rfl)
    (hn : (assignEach es X.env).length = n := by rfl) (hst : (assignEach es X.env).findIdx? (·.1) = none := by rfl) : PG X (.Tuple es k pos) (gTup K n t) := by subst e; exact pg_tup hc h hn hst
theorem st_eqT {σ σ' : L2.St} {H : Hp} {t : TT} {Q : Bool → Hp → Prop} (e : σ = σ') (h : t σ' H Q) : t σ H Q := e ▸ h
end G

namespace G
open PySem PySem.Spec PyProof.Rows L2
section
variable {K : PySem.W.Frag} {σ σ' : L2.St} {H : Hp} {F F1 F2 Fu : List Addr} {ta tb tc te : TE} {tA : TT} {v u x y : V} {i j k : Int} {α β : Type} {τ : Ty α} {υ : Ty β} {Q : VK} {c : Bool}
/-- a < b < c -/
theorem val_chainI {p q : Int → Int → Bool} (ha : Val ta σ H (.int i)) (hb : Val tb σ H (.int j)) (hc : Val tc σ H (.int k)) : Val (tChain (rI0 fun i j => .bl (p i j)) (rI0 fun i j => .bl (q i j)) ta tb tc) σ H (.bl (p i j && q j k)) := fun Q z => by
  refine ha _ (hb _ ⟨i, j, rfl, rfl, p i j, rfl, ?_⟩)
  cases e : p i j with
  | true =>
    rw [if_pos rfl]
    refine hc _ ⟨j, k, rfl, rfl, ?_⟩
    rw [e, Bool.true_and] at z; exact z
  | false =>
    rw [if_neg Bool.false_ne_true]
    rw [e, Bool.false_and] at z; exact z
/-- a if t else b -/
theorem val_if (ht : Ans tA σ H c) (h1 : c = true → Val ta σ H v) (h2 : c = false → Val tb σ H v) : Val (tIf tA ta tb) σ H v := fun Q z => ht _ (by
  cases hc : c with
  | true => rw [if_pos rfl]; exact h1 hc _ z
  | false => rw [if_neg Bool.false_ne_true]; exact h2 hc _ z)
theorem val_ifO {A B : Option α} {z : α} {f : α → V} (ht : Ans tA σ H c) (hz : (if c = true then A else B) = some z) (h1 : A = some z → Val ta σ H (f z)) (h2 : B = some z → Val tb σ H (f z)) : Val (tIf tA ta tb) σ H (f z) :=
  val_if ht (fun hc => h1 (by rw [if_pos hc] at hz; exact hz)) fun hc => h2 (by rw [hc, if_neg Bool.false_ne_true] at hz; exact hz)
end
end G

namespace G
open PySem PySem.Spec PyProof.Rows L2
section
variable {X : Cx} {K : PySem.W.Frag} {σ σ' : L2.St} {H : Hp} {F F1 F2 Fu : List Addr} {ta tb te : TE} {v u x y : V} {Q : VK} {b c : Bool}
/-- b is True -/
def rIsB : R2 := fun x y H Q => ∃ a b, x = .bl a ∧ y = .bl b ∧ Q (.bl (decide (a = b))) H
def rNotB : R2 := fun x y H Q => ∃ a b, x = .bl a ∧ y = .bl b ∧ Q (.bl (!decide (a = b))) H
theorem op_isB : OpR X (compareOp .Is) rIsB := op_is_bl
theorem op_notB : OpR X (compareOp .IsNot) rNotB := op_isnot_bl
theorem w_isB (k : Q (.bl (decide (b = c))) H) : rIsB (.bl b) (.bl c) H Q := ⟨b, c, rfl, rfl, k⟩
theorem w_notB (k : Q (.bl (!decide (b = c))) H) : rNotB (.bl b) (.bl c) H Q := ⟨b, c, rfl, rfl, k⟩
theorem val_isB (ha : Val ta σ H (.bl b)) (hb : Val tb σ H (.bl c)) : Val (tOp rIsB ta tb) σ H (.bl (decide (b = c))) := val_op ha hb fun Q q => w_isB q
theorem val_notB (ha : Val ta σ H (.bl b)) (hb : Val tb σ H (.bl c)) : Val (tOp rNotB ta tb) σ H (.bl (!decide (b = c))) := val_op ha hb fun Q q => w_notB q
end
end G

namespace G
open PySem PySem.Spec PyProof.Rows L2
/-! ### a list of a few things of kinds of their own -/
def yHl {α : Type} (ts : Tys α) : Ty α where
  rep K H F v d := ∃ a vs G, v = .ref a ∧ F = a :: G ∧ a ∉ G ∧ H a = some (.lst vs) ∧ ts.rep K H G vs d
  keep {K H H' F v d} h k := by
    obtain ⟨a, vs, G, e, rfl, na, g, r⟩ := h
    exact ⟨a, vs, G, e, rfl, na, k a _ g (.inl (List.mem_cons_self ..)), ts.keep r fun b o hb z => k b o hb (z.imp (List.mem_cons_of_mem _) id)⟩
  dom {K H F v d} h b m := by
    obtain ⟨a, vs, G, e, rfl, na, g, r⟩ := h
    rcases List.mem_cons.mp m with rfl | m
    · exact ⟨_, g, fun z => z⟩
    · exact ts.dom r b m
section
variable {K : PySem.W.Frag} {σ σ' : L2.St} {H : Hp} {F F1 F2 Fu G : List Addr} {ta tb te : TE} {v u x y : V} {i j : Int} {α β : Type} {τ : Ty α} {υ : Ty β} {ts : Tys α} {Q : VK} {D : Ends} {nx : L2.St → Hp → Prop}
theorem itm_hl {n : Nat} {p : α → β} {d : α} (A : At ts n υ p) (r : (yHl ts).rep K H F v d) :
    ∃ u F1, υ.rep K H F1 u (p d) ∧ (∀ a ∈ F1, a ∈ F) ∧ (∀ {Q : VK}, Q u H → rIxL K v (.int (n : Int)) H Q) ∧ ∀ {σ : L2.St} {ta tb : TE}, Val ta σ H v → Val tb σ H (.int (n : Int)) → Val (tOp (rIxL K) ta tb) σ H u := by
  obtain ⟨a, vs, G, rfl, rfl, na, g, q⟩ := r
  obtain ⟨u, F1, e, ru, sub⟩ := A q
  have k : ∀ {Q : VK}, Q u H → rIxL K (.ref a) (.int (n : Int)) H Q := fun k => ⟨a, vs, n, u, rfl, rfl, .inl (.inl g), atI_nat e, k⟩
  exact ⟨u, F1, ru, fun b hb => List.mem_cons_of_mem _ (sub b hb), k, fun ha hb => val_op ha hb fun Q q => k q⟩
theorem e_hl {vs : List V} {d : α} (z : vs.length ≤ Mi.big) (r : ts.rep K H G vs d) (k : ∀ p H', H p = none → Chg [] H H' → (yHl ts).rep K H' (p :: G) (.ref p) d → Q (.ref p) H') : LstG vs H Q :=
  ⟨sz z, fun p np => k p _ np (Chg.new np) ⟨p, vs, G, rfl, rfl, (fun hp => by
    obtain ⟨o, ho, _⟩ := ts.dom r p hp
    rw [np] at ho; cases ho), upd_same, ts.keep r fun b o e _ => by rw [upd_ne (ne_of_none e np)]; exact e⟩⟩
def AllL (ts : Tys α) : Prop := ∀ {K : PySem.W.Frag} {H : Hp} {G : List Addr} {vs : List V} {d : α}, ts.rep K H G vs d → ∀ u ∈ vs, ∃ p xs, u = .ref p ∧ p ∈ G ∧ H p = some (.lst xs)
theorem als_one : AllL (sOne (yLst τ)) := fun r u m => by
  obtain ⟨w, rfl, q⟩ := r
  obtain rfl := List.mem_singleton.mp m
  obtain ⟨p, vs, rfl, rfl, g, _⟩ := q
  exact ⟨p, vs, rfl, List.mem_singleton.mpr rfl, g⟩
theorem als_cons (h : AllL ts) : AllL (sCons (yLst υ) ts) := fun r u m => by
  obtain ⟨w, ws, F1, F2, rfl, rfl, q, qs⟩ := r
  rcases List.mem_cons.mp m with rfl | m
  · obtain ⟨p, vs, rfl, rfl, g, _⟩ := q
    exact ⟨p, vs, rfl, List.mem_append_left _ (List.mem_singleton.mpr rfl), g⟩
  · obtain ⟨p, xs, e, hp, g⟩ := h qs u m
    exact ⟨p, xs, e, List.mem_append_right _ hp, g⟩
/-- for part in parts: part.clear() -/
theorem l_clear {tb : TS} {d : α} {s : Nat} (al : AllL ts) (r : (yHl ts).rep K H F v d) (hs : s < σ.length)
    (hb : ∀ (D : Ends) (σ : L2.St) (H : Hp) (p : Addr) (xs : List V), σ[s]? = some (some (.ref p)) → H p = some (.lst xs) → D.nx σ (upd H p (.lst [])) → tb D σ H)
    (hk : ∀ σ' H', Chg F H H' → (∃ y, σ' = σ.set s y) → nx σ' H') :
    ∃ a, v = .ref a ∧ (∃ xs, SqL K H a xs) ∧ LoopG (Itl K a) (gName s) tb D nx σ H := by
  obtain ⟨a, vs, G, rfl, rfl, na, g, q⟩ := r
  have hl := al q
  have ini : ∃ y, σ = σ.set s y := ⟨σ[s], (List.set_getElem_self hs).symm⟩
  refine ⟨a, rfl, ⟨vs, .inl (.inl g)⟩, fun i m σ' H' => m = vs.length - i ∧ i ≤ vs.length ∧ Chg (a :: G) H H' ∧ H' a = some (.lst vs) ∧ (∀ u ∈ vs, ∃ p xs, u = .ref p ∧ p ∈ G ∧ H' p = some (.lst xs)) ∧ (∃ y, σ' = σ.set s y), ⟨vs.length, by omega, Nat.zero_le _, Chg.refl H, g, hl, ini⟩, ?_⟩
  rintro i m σ' H' ⟨rfl, hi, c, ga, hu, y', hy⟩
  by_cases hlt : i < vs.length
  · have hv : vs[i]? = some vs[i] := List.getElem?_eq_getElem hlt
    refine .inr ⟨⟨vs, vs[i], .inl (.inl ga), hv⟩, fun σ2 H2 => i + 1 ≤ vs.length ∧ Chg (a :: G) H H2 ∧ H2 a = some (.lst vs) ∧ (∀ u ∈ vs, ∃ p xs, u = .ref p ∧ p ∈ G ∧ H2 p = some (.lst xs)) ∧ (∃ y, σ2 = σ.set s y), fun σ2 H2 p' => ⟨vs.length - (i + 1), by omega, rfl, p'⟩, fun x H2 y => ?_⟩
    obtain ⟨rfl, y⟩ := y
    obtain rfl : x = vs[i] := Option.some.inj ((y _ (.inl (.inl ga))).symm.trans hv)
    obtain ⟨p, xs, ep, hp, gp⟩ := hu _ (List.mem_of_getElem? hv)
    rw [ep]
    have hs2 : s < σ'.length := by rw [hy, List.length_set]; exact hs
    refine hb _ _ _ p xs (by show (σ'.set s (some (.ref p)))[s]? = _; rw [List.getElem?_set_self hs2]) gp ⟨hlt, ?_, ?_, fun u m => ?_, ?_⟩
    · exact c.trans ((Chg.wr gp (fun z => z)).mono fun b hb => by rw [List.mem_singleton] at hb; subst hb; exact List.mem_cons_of_mem _ hp)
    · have : a ≠ p := fun e => by subst e; exact na hp
      rw [upd_ne this]; exact ga
    · obtain ⟨p2, ys, e2, hp2, g2⟩ := hu u m
      by_cases e : p2 = p
      · subst e; exact ⟨p2, [], e2, hp2, upd_same⟩
      · exact ⟨p2, ys, e2, hp2, by rw [upd_ne e]; exact g2⟩
    · exact ⟨_, by show σ'.set s _ = _; rw [hy, List.set_set]⟩
  · obtain rfl : i = vs.length := by omega
    exact .inl ⟨⟨vs, .inl (.inl ga), Nat.le_refl _⟩, hk σ' H' c ⟨y', hy⟩⟩
end
end G

namespace L2
open PySem PySem.Spec PyProof.Rows
section
variable {prog : Program} {w : World} {A : Around} {E : Value → Shared → Prop} {s : Shared}
theorem collect_tupleA {l : Addr} {vs : List Value} {Q : List Value → Shared → Prop} (hl : s.heap.IsTuple l vs.toArray) (hsz : vs.length ≤ sizeLine)
    (h : Q vs { s with heap := (s.heap.push (seqObj "list" #[] 0)).update s.heap.objs.size (Obj.mapSeq (· ++ vs.toArray)) }) :
    wpAny (model prog w) A (collect (.ref l)) Q E s := by
  obtain ⟨o, ho, hc, n, hd⟩ := id hl
  unfold collect
  refine wpAny_bind (wpAny_runValue (codeAny_builtin entry_proto_collect' ?_))
  show wpAny _ _ (do again (.builtin "list.__iadd__" ⟨[← newList [], .ref l], []⟩)) _ _ s
  refine wpAny_bind (wpAny_newList (wpAny_pure ⟨Code.quiet_builtin _ (by decide +kernel), codeAny_builtin entry_list_iadd' ?_⟩))
  show wpAny _ _ (Builtin.List.listExtendWith (.ref s.heap.objs.size) (.ref l) (.ref s.heap.objs.size)) _ _ { s with heap := s.heap.push (seqObj "list" #[] 0) }
  unfold Builtin.List.listExtendWith
  have ho' : (s.heap.push (seqObj "list" #[] 0)).get? l = some o := Heap.get?_push_of_some _ ho
  refine wpAny_bind (wpAny_typeOf (T := "tuple") ⟨o, ho', hc⟩ ?_)
  have ht : (Value.type "tuple" == Value.type "tuple") = true := by rfl
  rw [if_pos (by rw [ht]; simp)]
  refine wpAny_bind (listItems_at ho' hd ?_)
  refine wpAny_bind (listItems_at (xs := #[]) (n := 0) (Heap.get?_push_size _ rfl) rfl ?_)
  rw [if_neg (by simp)]
  refine wpAny_bind (listUpdate_at (xs := #[]) (n := 0) (Heap.get?_push_size _ rfl) rfl ?_ (Nat.zero_le _) (by show (#[] ++ vs.toArray).size ≤ sizeLine + 1; simp only [Array.size_append, List.size_toArray, List.length_nil]; omega))
  refine wpAny_pure ?_
  show wpAny (model prog w) A (do
      let o ← load s.heap.objs.size
      match o.data with
      | .seq xs _ => pure xs.toList
      | _ => unsupported "internal:collect") Q E { s with heap := (s.heap.push (seqObj "list" #[] 0)).update s.heap.objs.size (Obj.mapSeq (· ++ vs.toArray)) }
  refine wpAny_bind (wpAny_load (get?_update_seq (Heap.get?_push_size _ rfl) _) ?_)
  show wpAny _ _ (pure ((#[] : Array Value) ++ vs.toArray).toList) Q E _
  rw [show ((#[] : Array Value) ++ vs.toArray).toList = vs by simp]
  exact wpAny_pure h
theorem sorted_ordT {l : Addr} {vs : List Value} {ltv : Value → Value → Bool} {Q : Value → Shared → Prop} (O : SrtO.Swo ltv) (hl : s.heap.IsTuple l vs.toArray) (hz : vs.length ≤ sizeLine)
    (hS : 2 ≤ vs.length → ∀ (h₁ : Heap) (a : Addr), h₁.get? a = some (seqObj "list" vs.toArray 0) → (∀ b o, s.heap.get? b = some o → b ≠ a ∧ h₁.get? b = some o) → SrtO.SortableO prog w A.in1.in1 { s with heap := h₁ } a vs ltv)
    (h : ∀ out : List Value, SrtO.Srtd ltv out → SrtO.Stb ltv out vs → Q (.ref (s.heap.objs.size + 1)) { s with heap := sortedAll s.heap vs out.toArray }) :
    wpAny (model prog w) A (call (.builtin "sorted") [.ref l]) Q E s := by
  refine Calls.call_function_entry kind_sorted plain_sorted entry_sorted (args_sorted1 _) ?_
  unfold Builtin.«sorted»
  refine wpAny_bind (m := checkCount "sorted" 1 1 _) (wpAny_pure ?_)
  refine wpAny_bind (collect_tupleA hl hz ?_)
  refine wpAny_bind (wpAny_newList ?_ hz)
  have hsz : ((s.heap.push (seqObj "list" #[] 0)).update s.heap.objs.size (Obj.mapSeq (· ++ vs.toArray))).objs.size = s.heap.objs.size + 1 := by
    rw [Heap.size_update, size_push']
  have hoL : (((s.heap.push (seqObj "list" #[] 0)).update s.heap.objs.size (Obj.mapSeq (· ++ vs.toArray))).push (seqObj "list" vs.toArray 0)).get? (s.heap.objs.size + 1) = some (seqObj "list" vs.toArray 0) := by
    rw [← hsz]; exact Heap.get?_push_size _ rfl
  have keep : ∀ b o, s.heap.get? b = some o → b ≠ s.heap.objs.size + 1 ∧ (((s.heap.push (seqObj "list" #[] 0)).update s.heap.objs.size (Obj.mapSeq (· ++ vs.toArray))).push (seqObj "list" vs.toArray 0)).get? b = some o := fun b o q => by
    have hlt : b < s.heap.objs.size := Heap.lt_size q
    refine ⟨Nat.ne_of_lt (Nat.lt_succ_of_lt hlt), Heap.get?_push_of_some _ ?_⟩
    rw [Heap.get?_update_ne _ _ _ _ (Nat.ne_of_lt hlt)]
    exact Heap.get?_push_of_some _ q
  show wpAny _ _ _ _ _ { s with heap := ((s.heap.push (seqObj "list" #[] 0)).update s.heap.objs.size (Obj.mapSeq (· ++ vs.toArray))).push (seqObj "list" vs.toArray 0) }
  rw [hsz]
  refine wpAny_bind (wpAny_holding (wpAny_call_entry slot_list_sort ⟨_, hoL, rfl⟩ entry_list_sort (SrtO.list_sort_ord O hoL hz (fun h2 => hS h2 _ _ hoL keep) fun out hs hb => ⟨_, rfl, ?_⟩) (args_list_sort _)))
  exact wpAny_pure ⟨_, rfl, h out hs hb⟩
theorem iter_intTup {l : Addr} {xs : Array (Int × Tok)} {Q : Value → Shared → Prop} (hl : s.heap.IsTuple l (intItems xs))
    (h : ∀ s₂ : Shared, s₂ = { s with heap := s.heap.push { cls := .type "tuple_iterator", data := .fields #[.ref l, .int 0 0] } } →
      (s₂.heap.IsTupleIter s.heap.objs.size l 0 ∧ s₂.heap.IsTuple l (intItems xs)) → (∀ b ∈ [s.heap.objs.size, l], b < s₂.heap.objs.size) → l ≠ s.heap.objs.size → Q (.ref s.heap.objs.size) s₂) :
    wpAny (model prog w) A (pyIter (.ref l)) Q E s := by
  have hlt : l < s.heap.objs.size := by obtain ⟨_, e, _⟩ := hl; exact Heap.lt_size e
  refine wpAny_pyIter_tuple hl (h _ rfl ⟨⟨_, Heap.get?_push_size _ rfl, rfl, rfl⟩, hl.push _⟩ (fun b hb => ?_) (Nat.ne_of_lt hlt))
  show b < (s.heap.push _).objs.size
  rw [Heap.size_push]
  rcases List.mem_cons.mp hb with rfl | hb
  · exact Nat.lt_succ_self _
  · rcases List.mem_cons.mp hb with rfl | hb
    · exact Nat.lt_succ_of_lt hlt
    · cases hb
theorem old_keptT {l : Addr} {h' : Heap} (hk : ∀ b o, b ∉ [s.heap.objs.size] → (s.heap.push { cls := .type "tuple_iterator", data := .fields #[.ref l, .int 0 0] }).get? b = some o → h'.get? b = some o) :
    ∀ b o, s.heap.get? b = some o → h'.get? b = some o := fun b o e => by
  refine hk b o (fun hm => ?_) (Heap.get?_push_of_some _ e)
  rcases List.mem_cons.mp hm with e1 | hm
  · exact absurd (e1 ▸ Heap.lt_size e) (Nat.lt_irrefl _)
  · cases hm
theorem max_intTup {l : Addr} {xs : Array (Int × Tok)} {Q : Value → Shared → Prop} (hh : A.handled = none) (hl : s.heap.IsTuple l (intItems xs)) (hne : 0 < xs.size)
    (h : ∀ v h' tk, (intItems xs)[argBest (fun i j => decide (numAt xs i > numAt xs j)) (xs.size - 1)]? = some v → (∀ b o, s.heap.get? b = some o → h'.get? b = some o) → Q v { s with heap := h', toks := tk }) :
    wpAny (model prog w) A (call (.builtin "max") [.ref l]) Q E s := by
  refine call_max_walk (iter_intTup hl fun s₂ e st hfp hlI => ?_)
  subst e
  refine ⟨_, _, _, _, _, _, _, rfl, Walks.tuple (A := A.in1) hh _ l hlI (intItems xs), st, hfp, by simpa [intItems] using hne, CmpOf.ints_gt (numAt xs) (fun _ _ => intItems_at), fun v h' tk hP hk => ?_⟩
  exact h v h' tk (by simpa [intItems] using hP) (old_keptT hk)
theorem min_intTup {l : Addr} {xs : Array (Int × Tok)} {Q : Value → Shared → Prop} (hh : A.handled = none) (hl : s.heap.IsTuple l (intItems xs)) (hne : 0 < xs.size)
    (h : ∀ v h' tk, (intItems xs)[argBest (fun i j => decide (numAt xs i < numAt xs j)) (xs.size - 1)]? = some v → (∀ b o, s.heap.get? b = some o → h'.get? b = some o) → Q v { s with heap := h', toks := tk }) :
    wpAny (model prog w) A (call (.builtin "min") [.ref l]) Q E s := by
  refine call_min_walk (iter_intTup hl fun s₂ e st hfp hlI => ?_)
  subst e
  refine ⟨_, _, _, _, _, _, _, rfl, Walks.tuple (A := A.in1) hh _ l hlI (intItems xs), st, hfp, by simpa [intItems] using hne, CmpOf.ints_lt (numAt xs) (fun _ _ => intItems_at), fun v h' tk hP hk => ?_⟩
  exact h v h' tk (by simpa [intItems] using hP) (old_keptT hk)
theorem max_rawT {l : Addr} {its : List Value} {ns : List Int} {Q : Value → Shared → Prop} (hh : A.handled = none) (hl : s.heap.IsTuple l its.toArray) (hi : IntsAre its ns) (hne : 0 < ns.length)
    (h : ∀ h' tk M t', (∀ b o, s.heap.get? b = some o → h'.get? b = some o) → M ∈ ns → (∀ a, a ∈ ns → a ≤ M) → Q (.int M t') { s with heap := h', toks := tk }) : wpAny (model prog w) A (call (.builtin "max") [.ref l]) Q E s := by
  obtain ⟨xs, e⟩ := hi.allInts.items
  have hn : numsOf (intItems xs).toList = ns := by rw [← e]; exact hi.numsOf
  rw [nums_intItems] at hn
  subst hn
  rw [e] at hl
  have hsz : 0 < xs.size := by simpa using hne
  refine max_intTup hh hl hsz fun v h' tk hv hk => ?_
  obtain ⟨t, rfl⟩ := intItems_at hv
  obtain ⟨h1, h2⟩ := argBest_gt (numAt xs) (xs.size - 1)
  refine h h' tk _ t hk ?_ fun a ha => ?_
  · rw [numAt_eq]; exact PySem.getD_mem (by rw [List.length_map, Array.length_toList]; omega)
  · obtain ⟨j, hj, rfl⟩ := mem_getD ha
    rw [List.length_map, Array.length_toList] at hj
    rw [← numAt_eq]; exact h2 j (by omega)
theorem min_rawT {l : Addr} {its : List Value} {ns : List Int} {Q : Value → Shared → Prop} (hh : A.handled = none) (hl : s.heap.IsTuple l its.toArray) (hi : IntsAre its ns) (hne : 0 < ns.length)
    (h : ∀ h' tk M t', (∀ b o, s.heap.get? b = some o → h'.get? b = some o) → M ∈ ns → (∀ a, a ∈ ns → M ≤ a) → Q (.int M t') { s with heap := h', toks := tk }) : wpAny (model prog w) A (call (.builtin "min") [.ref l]) Q E s := by
  obtain ⟨xs, e⟩ := hi.allInts.items
  have hn : numsOf (intItems xs).toList = ns := by rw [← e]; exact hi.numsOf
  rw [nums_intItems] at hn
  subst hn
  rw [e] at hl
  have hsz : 0 < xs.size := by simpa using hne
  refine min_intTup hh hl hsz fun v h' tk hv hk => ?_
  obtain ⟨t, rfl⟩ := intItems_at hv
  obtain ⟨h1, h2⟩ := argBest_lt (numAt xs) (xs.size - 1)
  refine h h' tk _ t hk ?_ fun a ha => ?_
  · rw [numAt_eq]; exact PySem.getD_mem (by rw [List.length_map, Array.length_toList]; omega)
  · obtain ⟨j, hj, rfl⟩ := mem_getD ha
    rw [List.length_map, Array.length_toList] at hj
    rw [← numAt_eq]; exact h2 j (by omega)
end
section
variable {X : Cx}
def rSortedIT (K : PySem.W.Frag) : List V → Hp → VK → Prop := fun vs H Q => ∃ (a : Addr) (ns : List Int), vs = [V.ref a] ∧ SqT K H a (ns.map V.int) ∧
  ∀ (ns' : List Int) (p : Addr), ns'.Perm ns → ns'.Pairwise (· ≤ ·) → H p = none → Q (.ref p) (upd H p (.lst (ns'.map V.int)))
def rMaxT (K : PySem.W.Frag) : List V → Hp → VK → Prop := fun vs H Q => ∃ (a : Addr) (ns : List Int), vs = [V.ref a] ∧ SqT K H a (ns.map V.int) ∧ 0 < ns.length ∧ ∀ m, m ∈ ns → (∀ y, y ∈ ns → y ≤ m) → Q (.int m) H
def rMinT (K : PySem.W.Frag) : List V → Hp → VK → Prop := fun vs H Q => ∃ (a : Addr) (ns : List Int), vs = [V.ref a] ∧ SqT K H a (ns.map V.int) ∧ 0 < ns.length ∧ ∀ m, m ∈ ns → (∀ y, y ∈ ns → m ≤ y) → Q (.int m) H
theorem cr_sortedIT : CallR X (.builtin "sorted") (rSortedIT X.K) := by
  intro pins s σ H vs us Q I r h
  obtain ⟨a, ns, rfl, hs, q⟩ := h
  obtain ⟨its, rv, hl, hz⟩ := I.tuple hs
  rw [Vals.ref1 r]
  have hi := rv.ints
  refine sorted_ordT SrtO.swo_int hl (by rw [← rv.length]; exact hz) (fun h2 h₁ a' _ _ => SrtO.ints_sortable hi h2) fun out h1 h2 => ?_
  obtain ⟨k1, k2, k3⟩ := SrtO.ints_out hi h1 h2
  obtain ⟨ep, he'⟩ := PyProof.Rows.sortedAll_at s.heap its out.toArray
  have hlen : ((out.map SrtO.iv).map V.int).length ≤ sizeLine := by
    rw [List.length_map, k2.length_eq]
    rw [List.length_map] at hz
    exact hz
  exact ⟨.ref _, upd H (s.heap.objs.size + 1) (.lst ((out.map SrtO.iv).map V.int)), I.laid (t' := s.toks) (fun _ _ => PyProof.Rows.sortedAll_old) (Nat.le_succ _) ⟨hlen, out, ep, vals_of_ints k1, he'⟩, rfl, q _ _ k2 k3 (I.hok.fresh (Nat.le_succ _))⟩
theorem cr_maxT (hc : X.calm = true) : CallR X (.builtin "max") (rMaxT X.K) := by
  intro pins s σ H vs us Q I r h
  obtain ⟨a, ns, rfl, hs, hne, q⟩ := h
  obtain ⟨its, rv, hl, _⟩ := I.tuple hs
  rw [Vals.ref1 r]
  exact max_rawT (I.ok.hd hc) hl rv.ints hne fun h' tk m t' hk h1 h2 => ⟨.int _, H, I.kept hk, ⟨_, rfl⟩, q m h1 h2⟩
theorem cr_minT (hc : X.calm = true) : CallR X (.builtin "min") (rMinT X.K) := by
  intro pins s σ H vs us Q I r h
  obtain ⟨a, ns, rfl, hs, hne, q⟩ := h
  obtain ⟨its, rv, hl, _⟩ := I.tuple hs
  rw [Vals.ref1 r]
  exact min_rawT (I.ok.hd hc) hl rv.ints hne fun h' tk m t' hk h1 h2 => ⟨.int _, H, I.kept hk, ⟨_, rfl⟩, q m h1 h2⟩
end
end L2
namespace Mi
theorem foldmin (xs : List Int) : ∀ a : Int, (xs.foldl min a = a ∨ xs.foldl min a ∈ xs) ∧ xs.foldl min a ≤ a ∧ ∀ y ∈ xs, xs.foldl min a ≤ y := by
  induction xs with
  | nil => intro a; exact ⟨.inl rfl, Int.le_refl _, fun y h => nomatch h⟩
  | cons x xs ih =>
    intro a
    obtain ⟨h1, h2, h3⟩ := ih (min a x)
    show (xs.foldl min (min a x) = a ∨ _) ∧ xs.foldl min (min a x) ≤ a ∧ _
    refine ⟨?_, by omega, fun y hy => ?_⟩
    · rcases h1 with h1 | h1
      · by_cases hax : a ≤ x
        · exact .inl (by rw [h1]; omega)
        · refine .inr (List.mem_cons.mpr (.inl ?_)); show xs.foldl min (min a x) = x; rw [h1]; omega
      · exact .inr (List.mem_cons_of_mem _ h1)
    · show xs.foldl min (min a x) ≤ y
      rcases List.mem_cons.mp hy with rfl | hy
      · omega
      · exact h3 y hy
theorem foldmax (xs : List Int) : ∀ a : Int, (xs.foldl max a = a ∨ xs.foldl max a ∈ xs) ∧ a ≤ xs.foldl max a ∧ ∀ y ∈ xs, y ≤ xs.foldl max a := by
  induction xs with
  | nil => intro a; exact ⟨.inl rfl, Int.le_refl _, fun y h => nomatch h⟩
  | cons x xs ih =>
    intro a
    obtain ⟨h1, h2, h3⟩ := ih (max a x)
    show (xs.foldl max (max a x) = a ∨ _) ∧ a ≤ xs.foldl max (max a x) ∧ _
    refine ⟨?_, by omega, fun y hy => ?_⟩
    · rcases h1 with h1 | h1
      · by_cases hax : x ≤ a
        · exact .inl (by rw [h1]; omega)
        · refine .inr (List.mem_cons.mpr (.inl ?_)); show xs.foldl max (max a x) = x; rw [h1]; omega
      · exact .inr (List.mem_cons_of_mem _ h1)
    · show y ≤ xs.foldl max (max a x)
      rcases List.mem_cons.mp hy with rfl | hy
      · omega
      · exact h3 y hy
theorem lMin_spec {xs : List Int} {m : Int} (h : lMin xs = some m) : 0 < xs.length ∧ m ∈ xs ∧ ∀ y ∈ xs, m ≤ y := by
  cases xs with
  | nil => cases h
  | cons x xs =>
    obtain rfl : (x :: xs).foldl min x = m := Option.some.inj h
    obtain ⟨h1, h2, h3⟩ := foldmin (x :: xs) x
    refine ⟨Nat.succ_pos _, ?_, h3⟩
    rcases h1 with h1 | h1
    · rw [h1]; exact List.mem_cons_self ..
    · exact h1
theorem lMax_spec {xs : List Int} {m : Int} (h : lMax xs = some m) : 0 < xs.length ∧ m ∈ xs ∧ ∀ y ∈ xs, y ≤ m := by
  cases xs with
  | nil => cases h
  | cons x xs =>
    obtain rfl : (x :: xs).foldl max x = m := Option.some.inj h
    obtain ⟨h1, h2, h3⟩ := foldmax (x :: xs) x
    refine ⟨Nat.succ_pos _, ?_, h3⟩
    rcases h1 with h1 | h1
    · rw [h1]; exact List.mem_cons_self ..
    · exact h1
end Mi
namespace G
open PySem PySem.Spec PyProof.Rows L2
section
variable {X : Cx} {K : PySem.W.Frag} {σ σ' : L2.St} {H : Hp} {F : List Addr} {v : V} {Q : VK} {m : Int}
theorem cl_sortedT {K : PySem.W.Frag} (e : X.K = K := by rfl) : CallR X (.builtin "sorted") (rSortedIT K) := by subst e; exact cr_sortedIT
theorem w_sortedT {xs : List Int} (r : (yTupL yInt).rep K H F v xs) (k : ∀ p H', H p = none → Chg [] H H' → (yLst yInt).rep K H' [p] (.ref p) (Mi.sortI xs) → Q (.ref p) H') : rSortedIT K [v] H Q := by
  obtain ⟨p, rfl, s⟩ := ints_sqT r
  refine ⟨p, xs, rfl, s, fun ns q pm so nq => ?_⟩
  rw [sorted_unique (pm.trans (sortI_perm xs).symm) so (sortI_sorted xs)]
  exact k q _ nq (Chg.new nq) ⟨q, _, rfl, rfl, upd_same, ints_mk _⟩
theorem cl_maxT {K : PySem.W.Frag} (hc : X.calm = true) (e : X.K = K := by rfl) : CallR X (.builtin "max") (rMaxT K) := by subst e; exact cr_maxT hc
theorem cl_minT {K : PySem.W.Frag} (hc : X.calm = true) (e : X.K = K := by rfl) : CallR X (.builtin "min") (rMinT K) := by subst e; exact cr_minT hc
theorem cl_maxL {K : PySem.W.Frag} (hc : X.calm = true) (e : X.K = K := by rfl) : CallR X (.builtin "max") (rMax K) := by subst e; exact cr_max hc
theorem cl_minL {K : PySem.W.Frag} (hc : X.calm = true) (e : X.K = K := by rfl) : CallR X (.builtin "min") (rMin K) := by subst e; exact cr_min hc
theorem cl_sumL {K : PySem.W.Frag} (hc : X.calm = true) (e : X.K = K := by rfl) : CallR X (.builtin "sum") (rSum K) := by subst e; exact cr_sum hc
theorem w_maxT {xs : List Int} (r : (yTupL yInt).rep K H F v xs) (h : Mi.lMax xs = some m) (k : Q (.int m) H) : rMaxT K [v] H Q := by
  obtain ⟨p, rfl, s⟩ := ints_sqT r
  obtain ⟨h1, h2, h3⟩ := Mi.lMax_spec h
  exact ⟨p, xs, rfl, s, h1, fun z hz ha => by rw [show z = m from Int.le_antisymm (h3 z hz) (ha m h2)]; exact k⟩
theorem w_minT {xs : List Int} (r : (yTupL yInt).rep K H F v xs) (h : Mi.lMin xs = some m) (k : Q (.int m) H) : rMinT K [v] H Q := by
  obtain ⟨p, rfl, s⟩ := ints_sqT r
  obtain ⟨h1, h2, h3⟩ := Mi.lMin_spec h
  exact ⟨p, xs, rfl, s, h1, fun z hz ha => by rw [show z = m from Int.le_antisymm (ha m h2) (h3 z hz)]; exact k⟩
theorem w_maxL {xs : List Int} (r : (yLst yInt).rep K H F v xs) (h : Mi.lMax xs = some m) (k : Q (.int m) H) : rMax K [v] H Q := by
  obtain ⟨p, rfl, s⟩ := ints_sqL r
  obtain ⟨h1, h2, h3⟩ := Mi.lMax_spec h
  exact ⟨p, xs, rfl, s, h1, fun z hz ha => by rw [show z = m from Int.le_antisymm (h3 z hz) (ha m h2)]; exact k⟩
theorem w_minL {xs : List Int} (r : (yLst yInt).rep K H F v xs) (h : Mi.lMin xs = some m) (k : Q (.int m) H) : rMin K [v] H Q := by
  obtain ⟨p, rfl, s⟩ := ints_sqL r
  obtain ⟨h1, h2, h3⟩ := Mi.lMin_spec h
  exact ⟨p, xs, rfl, s, h1, fun z hz ha => by rw [show z = m from Int.le_antisymm (ha m h2) (h3 z hz)]; exact k⟩
theorem w_sumL {xs : List Int} (r : (yLst yInt).rep K H F v xs) (k : Q (.int xs.sum) H) : rSum K [v] H Q := by
  obtain ⟨p, rfl, s⟩ := ints_sqL r
  exact ⟨p, xs, rfl, s, k⟩
end
/-! ### defaults that are tuples -/
def kwdAt (f : Str × Option Str) (x : Str) (K : PySem.W.Frag) : Addr := match K.lookup (He.fAd K f) with
  | some ⟨_, _, .func fd, _⟩ => (match fd.kwdefaults with
    | .ref D => (match PySem.W.nsIn K D x with
      | some (some (.ref a)) => a
      | _ => 0)
    | _ => 0)
  | _ => 0
def tupAt (K : PySem.W.Frag) (a : Addr) (vs : List He.Dv) : Bool := match K.lookup a with
  | some ⟨.type c, _, .seq its _, _⟩ => decide (c = "tuple") && (decide (its.size ≤ sizeLine) && He.relAll (vs.map (He.Dv.v K)) its.toList)
  | _ => false
theorem tupAt_ok {K : PySem.W.Frag} {a : Addr} {vs : List He.Dv} (h : tupAt K a vs = true) (H : Hp) : SqT K H a (vs.map (He.Dv.v K)) := by
  unfold tupAt at h
  cases q : K.lookup a with
  | none =>
    rw [q] at h
    cases h
  | some o =>
    obtain ⟨oc, od, dt, osl⟩ := o
    rw [q] at h
    cases oc with
    | type c =>
      cases dt with
      | seq its n =>
        obtain ⟨h1, h2⟩ := He.ba (show (decide (c = "tuple") && (decide (its.size ≤ sizeLine) && He.relAll (vs.map (He.Dv.v K)) its.toList)) = true from h)
        obtain ⟨h3, h4⟩ := He.ba h2
        exact .inr ⟨_, its, n, q, congrArg Value.type (of_decide_eq_true h1), rfl, of_decide_eq_true h3, He.relAll_ok h4⟩
      | _ => cases h
    | _ => cases dt <;> cases h
theorem tupAt_ints {K : PySem.W.Frag} {a : Addr} {ns : List Int} (h : tupAt K a (ns.map He.Dv.int) = true) (H : Hp) : (yTupL yInt).rep K H [] (.ref a) ns :=
  ⟨a, ns.map V.int, rfl, rfl, by have := tupAt_ok h H; rw [List.map_map] at this; exact this, ints_mk ns⟩
def permG (ix : List Nat) {α : Type} (us mv ws : List α) : List α := ix.filterMap fun i => (us ++ (mv ++ ws))[i]?
theorem vals_at {vs : List V} {us : List Value} (r : Vals vs us) (i : Nat) : (vs[i]? = none ∧ us[i]? = none) ∨ ∃ v u, vs[i]? = some v ∧ us[i]? = some u ∧ RelV v u := by
  induction r generalizing i with
  | nil => exact .inl ⟨rfl, rfl⟩
  | cons h t ih =>
    cases i with
    | zero => exact .inr ⟨_, _, rfl, rfl, h⟩
    | succ i => exact ih i
theorem vals_app {vs zs : List V} {us ws : List Value} (r : Vals vs us) (q : Vals zs ws) : Vals (vs ++ zs) (us ++ ws) := by
  induction r with
  | nil => exact q
  | cons h t ih => exact .cons h ih
theorem permG_rel (ix : List Nat) {vs mz zs : List V} {us mv ws : List Value} (r1 : Vals vs us) (r2 : Vals mz mv) (r3 : Vals zs ws) : Vals (permG ix vs mz zs) (permG ix us mv ws) := by
  have r := vals_app r1 (vals_app r2 r3)
  unfold permG
  induction ix with
  | nil => exact .nil
  | cons i ix ih =>
    rcases vals_at r i with ⟨e1, e2⟩ | ⟨v, u, e1, e2, h⟩
    · rw [List.filterMap_cons_none e1, List.filterMap_cons_none e2]; exact ih
    · rw [List.filterMap_cons_some e1, List.filterMap_cons_some e2]; exact .cons h ih
/-! ### the head's hook with a check of one's own -/
def obsEG (n : Nat) (fa : List He.Fa) (fn : List He.DefD) (ex : PySem.W.Frag → Bool) (g : Addr → Option Obj) : He.AlD × Bool := (He.obsD fa fn (He.frG g (He.asD g n)), ex (He.frG g (He.asD g n)))
def hookE (n : Nat) (fa : List He.Fa) (fn : List He.DefD) (ex : PySem.W.Frag → Bool) : PySem.W.Hook where
  α := He.AlD × Bool
  obs := fun s => obsEG n fa fn ex s.heap.get?
  val := fun _ => (He.valD fn, true)
  says := fun _ h => ∃ K : PySem.W.Frag, K.In h ∧ (He.SaysD fa fn K ∧ ex K = true)
  of := fun _ _ e => ⟨_, He.frG_in, congrArg Prod.fst e, congrArg Prod.snd e⟩
  keeps := fun _ _ _ ⟨K, hK, c⟩ k => ⟨K, PySem.W.Frag.In.keeps hK k, c⟩
theorem obsEG_eq {n : Nat} {fa : List He.Fa} {fn : List He.DefD} {ex : PySem.W.Frag → Bool} {g : Addr → Option Obj} {s : Shared} (h : ∀ a, g a = s.heap.get? a) : obsEG n fa fn ex g = (hookE n fa fn ex).obs s := by
  have e : g = s.heap.get? := funext h
  rw [e] <;> rfl
end G

namespace G
open PySem PySem.Spec PyProof.Rows L2
section
variable {X : Cx} {P : Program} {w : World} {K : PySem.W.Frag} {σ σ' : L2.St} {H : Hp} {F F1 F2 Fu : List Addr} {ta tb te to : TE} {v u x y : V} {i j : Int} {Q : VK} {α : Type} {τ : Ty α} {n : Nat}
/-! ### x in a list of data -/
theorem units1 {k : Nat} {A : Around} (r : Room k A) : A.units + 65 < cLine := by have := r.un; omega
theorem op_in_d {K : PySem.W.Frag} (hu : X.A.units + 65 < cLine) (e : X.K = K := by rfl) : OpR X (compareOp .In) (rInD K) := by subst e; exact op_inD hu
theorem op_ni_d {K : PySem.W.Frag} (hu : X.A.units + 65 < cLine) (e : X.K = K := by rfl) : OpR X (compareOp .NotIn) (rNotInD K) := by subst e; exact op_notInD hu
theorem any_eqv [BEq α] [LawfulBEq α] (d : Dat τ n) (xs : List α) (x : α) : ((xs.map d.f).any fun z => PyData.eqv z (d.f x)) = xs.contains x := by
  letI := d.dec
  induction xs with
  | nil => rfl
  | cons y ys ih =>
    rw [List.map_cons, List.any_cons, ih, d.eqv, List.contains_cons]
    congr 1
    by_cases e : y = x
    · subst e; simp
    · rw [decide_eq_false e, beq_eq_false_iff_ne.mpr (Ne.symm e)]
theorem w_inD [BEq α] [LawfulBEq α] {xs : List α} {d : α} (D : Dat τ n) (r : (yLst τ).rep K H F v xs) (q : τ.rep K H F2 u d) (k : Q (.bl (xs.contains d)) H) (hn : n + 1 ≤ 64 := by decide) : rInD K u v H Q :=
  ⟨_, _, D.dp q, (dat_lst D).dp r, D.shaped (by omega) d, (dat_lst D).shaped hn xs, by rw [any_eqv]; exact k⟩
theorem w_niD [BEq α] [LawfulBEq α] {xs : List α} {d : α} (D : Dat τ n) (r : (yLst τ).rep K H F v xs) (q : τ.rep K H F2 u d) (k : Q (.bl (!xs.contains d)) H) (hn : n + 1 ≤ 64 := by decide) : rNotInD K u v H Q :=
  ⟨_, _, D.dp q, (dat_lst D).dp r, D.shaped (by omega) d, (dat_lst D).shaped hn xs, by rw [any_eqv]; exact k⟩
theorem w_inDG [BEq α] [LawfulBEq α] {xs : List α} {d : α} (D : Dat τ n) (r : (yLsg τ).rep K H F v xs) (q : τ.rep K H F2 u d) (k : Q (.bl (xs.contains d)) H) (hn : n + 1 ≤ 64 := by decide) : rInD K u v H Q :=
  ⟨_, _, D.dp q, (dat_lsg D).dp r, D.shaped (by omega) d, (dat_lsg D).shaped hn xs, by rw [any_eqv]; exact k⟩
theorem w_niDG [BEq α] [LawfulBEq α] {xs : List α} {d : α} (D : Dat τ n) (r : (yLsg τ).rep K H F v xs) (q : τ.rep K H F2 u d) (k : Q (.bl (!xs.contains d)) H) (hn : n + 1 ≤ 64 := by decide) : rNotInD K u v H Q :=
  ⟨_, _, D.dp q, (dat_lsg D).dp r, D.shaped (by omega) d, (dat_lsg D).shaped hn xs, by rw [any_eqv]; exact k⟩
/-! ### a pair as a tuple of ints -/
theorem pair_tupl {d : Int × Int} (r : yPair.rep K H F v d) : (yTupL yInt).rep K H [] v [d.1, d.2] := by
  obtain ⟨rfl, a, rfl, s⟩ := pair_sq r
  exact ⟨a, _, rfl, rfl, s, .cons ⟨rfl, rfl⟩ (.cons ⟨rfl, rfl⟩ .nil)⟩
/-! ### any, all -/
theorem bools_sqL {xs : List Bool} (r : (yLst yBool).rep K H F v xs) : ∃ a, v = .ref a ∧ SqL K H a (xs.map V.bl) := by
  obtain ⟨a, vs, rfl, s, q⟩ := lst_sq r
  have e : vs = xs.map V.bl := by
    clear s r
    induction q with
    | nil => rfl
    | cons h t ih => obtain ⟨_, rfl⟩ := h; rw [ih]; rfl
  subst e
  exact ⟨a, rfl, s⟩
theorem cl_anyL {K : PySem.W.Frag} (hc : X.calm = true) (e : X.K = K := by rfl) : CallR X (.builtin "any") (rAny K) := by subst e; exact cr_any hc
theorem cl_allL {K : PySem.W.Frag} (hc : X.calm = true) (e : X.K = K := by rfl) : CallR X (.builtin "all") (rAll K) := by subst e; exact cr_all hc
theorem w_anyL {xs : List Bool} (r : (yLst yBool).rep K H F v xs) (k : Q (.bl (xs.any id)) H) : rAny K [v] H Q := by
  obtain ⟨a, rfl, s⟩ := bools_sqL r
  exact ⟨a, xs, rfl, s, k⟩
theorem w_allL {xs : List Bool} (r : (yLst yBool).rep K H F v xs) (k : Q (.bl (xs.all id)) H) : rAll K [v] H Q := by
  obtain ⟨a, rfl, s⟩ := bools_sqL r
  exact ⟨a, xs, rfl, s, k⟩
/-! ### list * int -/
theorem pr_rep {R : V → α → Prop} {vs : List V} {xs : List α} (q : Paired R vs xs) : ∀ k : Nat, Paired R (List.replicate k vs).flatten (List.replicate k xs).flatten
  | 0 => .nil
  | k + 1 => by
    rw [List.replicate_succ, List.replicate_succ, List.flatten_cons, List.flatten_cons]
    exact pr_app q (pr_rep q k)
theorem w_rep {xs zs : List α} (r : (yLst τ).rep K H F v xs) (hm : Mi.repL xs i = some zs) (k : ∀ p H', H p = none → Chg [] H H' → (yLst τ).rep K H' [p] (.ref p) zs → Q (.ref p) H') : rRep v (.int i) H Q := by
  obtain ⟨a, vs, rfl, rfl, g, q⟩ := r
  unfold Mi.repL at hm
  split at hm
  · rename_i hc
    obtain rfl := Option.some.inj hm
    refine ⟨a, i, vs, rfl, rfl, g, by omega, by omega, ?_, fun p np => k p _ np (Chg.new np) ⟨p, _, rfl, rfl, upd_same, ?_⟩⟩
    · rw [Paired.length q]
      exact Nat.le_trans hc.2.2 (by rw [sizeLine_eq]; decide)
    · exact pr_rep (Paired.mapP q fun _ _ z => Ty.ex z (Chg.new np)) i.toNat
  · cases hm
/-! ### list(range(..)) -/
def LrG1 (x : V) (H : Hp) (Q : VK) : Prop := ∃ n, x = .int n ∧ (RgOk 0 n ∧ ∀ q, H q = none → Q (.ref q) (upd H q (.lst (rgV 0 n))))
def LrG2 (x y : V) (H : Hp) (Q : VK) : Prop := ∃ i j, x = .int i ∧ y = .int j ∧ (RgOk i j ∧ ∀ q, H q = none → Q (.ref q) (upd H q (.lst (rgV i j))))
theorem w_lrng1 (h : ta σ H fun x H1 => LrG1 x H1 Q) : tLstRg (tRg1 ta) σ H Q := h
theorem w_lrng2 (h : ta σ H fun x H1 => tb σ H1 fun y H2 => LrG2 x y H2 Q) : tLstRg (tRg2 ta tb) σ H Q := h
theorem rg_ints (a b : Int) : Paired (fun u x => yInt.rep K H [] u x) (rgV a b) (Mi.rng a b) := by
  unfold rgV Mi.rng
  induction List.range (b - a).toNat with
  | nil => exact .nil
  | cons k ks ih => exact .cons ⟨rfl, rfl⟩ ih
theorem rgL_ok {lo hi : Int} {xs : List Int} (hm : Mi.rngL lo hi = some xs) : RgOk lo hi ∧ xs = Mi.rng lo hi := by
  unfold Mi.rngL at hm
  split at hm
  · exact ⟨⟨by omega, by omega, by omega, by omega, by omega⟩, (Option.some.inj hm).symm⟩
  · cases hm
theorem x_lrng {lo hi : Int} {xs : List Int} (hm : Mi.rngL lo hi = some xs) (k : ∀ p H', H p = none → Chg [] H H' → (yLst yInt).rep K H' [p] (.ref p) xs → Q (.ref p) H') : RgOk lo hi ∧ ∀ q, H q = none → Q (.ref q) (upd H q (.lst (rgV lo hi))) := by
  obtain ⟨h1, rfl⟩ := rgL_ok hm
  exact ⟨h1, fun q nq => k q _ nq (Chg.new nq) ⟨q, _, rfl, rfl, upd_same, rg_ints lo hi⟩⟩
theorem x_lrng1 {hi : Int} {xs : List Int} (hm : Mi.rngL 0 hi = some xs) (k : ∀ p H', H p = none → Chg [] H H' → (yLst yInt).rep K H' [p] (.ref p) xs → Q (.ref p) H') : LrG1 (.int hi) H Q := ⟨hi, rfl, x_lrng hm k⟩
theorem x_lrng2 {lo hi : Int} {xs : List Int} (hm : Mi.rngL lo hi = some xs) (k : ∀ p H', H p = none → Chg [] H H' → (yLst yInt).rep K H' [p] (.ref p) xs → Q (.ref p) H') : LrG2 (.int lo) (.int hi) H Q := ⟨lo, hi, rfl, rfl, x_lrng hm k⟩
theorem opt_n : (yOpt τ).rep K H [] .non (none : Option α) := ⟨rfl, rfl⟩
theorem opt_i {d : α} (nn : v ≠ .non) (r : τ.rep K H F v d) : (yOpt τ).rep K H F v (some d) := ⟨nn, r⟩
theorem Ty.freshOr {G Fp : List Addr} {d : α} (r : τ.rep K H F v d) (np : ∀ a ∈ G, H a = none ∨ a ∈ Fp) (dj : Dj F Fp) : Dj F G := fun a h z => by
  rcases np a z with e | e
  · obtain ⟨o, e2, _⟩ := τ.dom r a h
    rw [e] at e2; cases e2
  · exact dj a h e
/-! ### defs with defaults -/
theorem w_callN {n m : Nat} {sp : Sp} {gV : List V → List V → List V} {E : XK} {t tk : TA} (h : t σ H fun vs H1 => tk σ H1 fun zs H2 => vs.length = n ∧ zs.length = m ∧ sp (gV vs zs) H2 Q E) : tCallN n m sp gV E t tk σ H Q := h
end
theorem okD {P : Program} {w : World} {K : PySem.W.Frag} {mg : Str → Option Value} {base : Heap} {x qual : Str} {params : Arguments} {body : List Stmt} {scope : Scope} {dvs : List V} {kws : List (Str × V)} {f : Addr} {fd : FuncData} {N ps : List Str} {k : Nat} {sp : Sp} (F : FunD K x qual params body scope dvs kws f fd) (S : FnScope N ps scope) (len : ∀ vs H Q E, sp vs H Q E → vs.length = ps.length)
    (hbody : ∀ (cdv : Value) (A : Around) (outer : List Env) (s : Shared) (H : Hp) (vs : List V) (Q : VK) (E : XK), Room k (A.deeper (envOfC qual scope s.heap.objs.size f cdv)) → sp vs H Q E →
      ∃ t, PSs (cxOf CX0 P w K mg base N qual scope f cdv A outer s H E).nox body t ∧ t { nx := fun _ H' => Q .non H', rt := Q } (start N vs) H) : FnOk P w K mg base CX0 (k + 1) f fd ps sp :=
  F.ok S len fun cdv A outer s H vs Q E hr hsp => by
    obtain ⟨t, h, q⟩ := hbody cdv A outer s H vs Q E hr hsp
    exact ⟨t, h.nox, q⟩
structure DfnD (K : PySem.W.Frag) (mg : Str → Option Value) (x : Str) (st : Stmt) (dvs : List V) : Prop where
  ex : ∃ f fd, FunD K x x (defArgs st) (defBody st) (defScope st) dvs [] f fd ∧ mg x = some (.ref f)
structure CalD (P : Program) (w : World) (K : PySem.W.Frag) (mg : Str → Option Value) (x : Str) (st : Stmt) (dvs : List V) (ps : List Str) (k : Nat) (sp : Sp) : Prop where
  ex : ∃ f fd, mg x = some (.ref f) ∧ FunD K x x (defArgs st) (defBody st) (defScope st) dvs [] f fd ∧ ∀ base : Heap, FnOk P w K mg base CX0 k f fd ps sp
end G

namespace G
open PySem PySem.Spec PyProof.Rows L2
section
variable {X : Cx} {P : Program} {w : World} {K : PySem.W.Frag} {σ σ' : L2.St} {H : Hp} {F F1 F2 Fu : List Addr} {ta tb te to : TE} {tA : TT} {v u x y : V} {i j : Int} {Q : VK} {α β : Type} {τ : Ty α} {υ : Ty β} {n : Nat} {g : TG} {tt : TT} {ws : List Nat}
theorem j_if (R : V → Hp → Prop) (h : ∀ Q' : VK, (∀ x H', R x H' → Q' x H') → te σ H Q') (k : ∀ x H', R x H' → Q x H') : te σ H Q := h Q k
theorem w_ife (h : tA σ H fun c H1 => if c = true then ta σ H1 Q else tb σ H1 Q) : tIf tA ta tb σ H Q := h
theorem or_app {F G : List Addr} {p : Addr → Prop} (h1 : ∀ a ∈ F, p a) (h2 : ∀ a ∈ G, p a) : ∀ a ∈ F ++ G, p a := fun a h => by
  rcases List.mem_append.mp h with h | h
  · exact h1 a h
  · exact h2 a h
/-! ### sorted(a set of ints) -/
theorem cl_sortedSet {w : World} (hc : X.calm = true) (e : X.w = w := by rfl) : CallR X (.builtin "sorted") (rSortedSet w) := by subst e; exact cr_sortedSet hc
theorem asc_unique : ∀ {xs ys : List Int}, xs.Pairwise (· < ·) → ys.Pairwise (· ≤ ·) → ys.Nodup → (∀ a, a ∈ xs ↔ a ∈ ys) → xs = ys
  | [], [], _, _, _, _ => rfl
  | [], y :: ys, _, _, _, h => absurd ((h y).mpr (List.mem_cons_self ..)) List.not_mem_nil
  | x :: xs, [], _, _, _, h => absurd ((h x).mp (List.mem_cons_self ..)) List.not_mem_nil
  | x :: xs, y :: ys, h1, h2, h3, h => by
    have p1 := List.pairwise_cons.mp h1
    have p2 := List.pairwise_cons.mp h2
    have p3 := List.nodup_cons.mp h3
    have e : x = y := by
      rcases List.mem_cons.mp ((h x).mp (List.mem_cons_self ..)) with e | e
      · exact e
      · rcases List.mem_cons.mp ((h y).mpr (List.mem_cons_self ..)) with e2 | e2
        · exact e2.symm
        · have := p1.1 y e2
          have := p2.1 x e
          omega
    subst e
    rw [asc_unique p1.2 p2.2 p3.2 fun a => ?_]
    constructor
    · intro ha
      rcases List.mem_cons.mp ((h a).mp (List.mem_cons_of_mem _ ha)) with e | e
      · subst e; have := p1.1 a ha; omega
      · exact e
    · intro ha
      rcases List.mem_cons.mp ((h a).mpr (List.mem_cons_of_mem _ ha)) with e | e
      · subst e; exact absurd ha p3.1
      · exact e
/-- fewer than 64 members, none twice -/
theorem w_sortedS {w : World} {xs : List Int} {z : Unit} (r : (ySet w).rep K H F v xs) (hz : Mi.guardO (decide (xs.length < 64) && decide xs.Nodup) = some z) (k : ∀ p H', H p = none → Chg [] H H' → (yLst yInt).rep K H' [p] (.ref p) (Mi.sortI xs) → Q (.ref p) H') : rSortedSet w [v] H Q := by
  obtain ⟨a, rfl, rfl, g⟩ := r
  unfold Mi.guardO at hz
  split at hz
  · rename_i hc
    rw [Bool.and_eq_true, decide_eq_true_eq, decide_eq_true_eq] at hc
    refine ⟨a, _, _, rfl, g, hc.1, fun ns p hp hm hl np => ?_⟩
    have e : ns = Mi.sortI xs := asc_unique hp (sortI_sorted xs) ((sortI_perm xs).nodup_iff.mpr hc.2) fun b => by
      rw [hm, (sortI_perm xs).mem_iff, List.contains_iff_mem]
    subst e
    exact k p _ np (Chg.new np) ⟨p, _, rfl, rfl, upd_same, ints_mk _⟩
  · cases hz
/-! ### a comprehension over enumerate -/
theorem kc_enum {xs : List β} (r : (yLst υ).rep K H F v xs) (Pv : Addr → Nat → Hp → Prop) (h0 : ∀ D H', H D = none → Chg [] H H' → (yLst τ).rep K H' [D] (.ref D) [] → Pv D 0 H') (hl : ∀ D i H', Pv D i H' → (yLst υ).rep K H' F v xs)
    (hs : ∀ D (i : Nat) (x : Int × β) (u : V) H' H2, (Mi.enumF 0 xs)[i]? = some x → Chg [] H' H2 → (yTup (sCons yInt (sOne υ))).rep K H2 [] u x → Pv D i H' → TurnG g tt te ws σ D (Pv D (i + 1)) u H2) (hd : ∀ D H', H D = none → Pv D (Mi.enumF 0 xs).length H' → Q (.ref D) H') :
    ∃ a xs, [v] = [.ref a] ∧ SqL K H a xs ∧ CompG (Ite K a) g tt te ws σ H Q := by
  obtain ⟨a, vs, e, s, q⟩ := lst_sq r
  refine ⟨a, vs, by rw [e], s, comp_by (K := K) (τ := τ) xs.length Pv h0 (fun D i H' hi p => ?_) (fun D H' hD p => ?_)⟩
  · obtain ⟨a', vs', e', s', q'⟩ := lst_sq (hl D i H' p)
    obtain rfl : a = a' := by rw [e] at e'; exact V.ref.inj e'
    obtain ⟨u, hu, ru⟩ := pr_get q' (List.getElem?_eq_getElem hi)
    refine ⟨⟨vs', u, s', hu⟩, fun x H2 y => ?_⟩
    obtain ⟨T, w, rfl, nT, rfl, y⟩ := y
    obtain rfl : w = u := Option.some.inj ((y _ s').symm.trans hu)
    have hx := enumF_at 0 xs i (List.getElem?_eq_getElem hi)
    have e0 : (0 : Int) + (i : Int) = (i : Int) := Int.zero_add _
    rw [e0] at hx
    have c : Chg [] H' (upd H' T (.tup [.int (i : Nat), w])) := Chg.new nT
    exact hs D i _ _ _ _ hx c ⟨T, _, rfl, .inl (.inl upd_same), _, _, [], [], rfl, rfl, ⟨rfl, rfl⟩, _, rfl, Ty.ex ru c⟩ p
  · obtain ⟨a', vs', e', s', q'⟩ := lst_sq (hl D _ H' p)
    obtain rfl : a = a' := by rw [e] at e'; exact V.ref.inj e'
    exact ⟨⟨vs', s', by rw [pr_len q']; exact Nat.le_refl _⟩, hd D H' hD (by rw [enumF_len]; exact p)⟩
end
end G

namespace L2
open PySem PySem.Spec PyProof.Rows
section
variable {X : Cx} {e e3 : Expr} {te : TE} {t3 : TO} {pos p2 : Pos}
/-- xs[::k] of a list, k fixed: pv picks -/
def tSlK (K : PySem.W.Frag) (k : Int) (pv : List V → List V) (te : TE) (t3 : TO) : TE := fun σ H Q => te σ H fun x H1 => t3 σ H1 fun st H2 => st = some k ∧ ∃ a xs, x = .ref a ∧ SqL K H2 a xs ∧ ∀ p, H2 p = none → Q (.ref p) (upd H2 p (.lst (pv xs)))
theorem pe_sliceK {k : Int} {pv : List V → List V} {pick : List Value → List Value} (hk : k ≠ 0) (hp : ∀ its : List Value, slicePick its.toArray none none (some k) = (pick its).toArray) (hv : ∀ {xs : List V} {its : List Value}, Vals xs its → Vals (pv xs) (pick its)) (hl : ∀ xs : List V, (pv xs).length ≤ xs.length)
    (he : PE X e te) (h3 : PO X (some e3) t3) : PE X (.Subscript e (.Slice none none (some e3) p2) pos) (tSlK X.K k pv te t3) := by
  refine ⟨fun pins s σ H Q I h => ?_⟩
  refine Subscript_ (thn (he.run pins s σ H _ I h) fun v s1 ⟨x, H1, I1, r1, q1⟩ => ?_)
  refine wpAny_Slice ?_
  rw [evalPart_none]
  refine wpAny_pure (wpAny_pure ?_)
  refine thn (h3.run pins s1 σ H1 _ I1 q1) fun vst s3 ⟨st, H3, I3, pst, q3⟩ => ?_
  obtain ⟨rfl, a, xs, rfl, hx, q⟩ := q3
  have I4 : Inv X pins σ H3 { s3 with heap := s3.heap.push { cls := .type "slice", data := .fields #[.none, .none, vst] } } := I3.kept (t' := s3.toks) fun b ob q => Heap.get?_push_of_some _ q
  cases r1
  obtain ⟨its, r, ht, hz⟩ := I4.list hx
  have hlen := r.length
  have hs : Heap.IsSliceOf (s3.heap.push { cls := .type "slice", data := .fields #[.none, .none, vst] }) s3.heap.objs.size .none .none vst := Heap.IsSliceOf.new ..
  show wpAny (model X.prog X.w) X.A (subscriptTail e (.Slice none none (some e3) p2) (.ref a) (.ref s3.heap.objs.size)) (EP X pins σ Q) X.xe { s3 with heap := s3.heap.push { cls := .type "slice", data := .fields #[.none, .none, vst] } }
  refine tail_any (ops := [.ref a, .ref s3.heap.objs.size]) ht.isList.typeIs slot_list_getitem.lookup ?_ (by with_unfolding_all rfl)
  refine wpAny_getItem_list_slice (s := { s3 with heap := s3.heap.push { cls := .type "slice", data := .fields #[.none, .none, vst] } }) ht.isList hs .none .none pst (fun z => hk (Option.some.inj z)) ?_ (by rw [List.size_toArray] <;> omega)
  rw [hp]
  refine ⟨.ref _, _, I4.laid (t' := s3.toks) (o := .lst (pv xs)) (fun b ob q => Heap.get?_push_of_some _ q) (Nat.le_refl _) ?_, rfl, q _ (I4.hok.fresh (Nat.le_refl _))⟩
  exact ⟨Nat.le_trans (hl xs) hz, _, 0, hv r, Heap.get?_push_size _ rfl⟩
end
theorem pick_rev (its : List Value) : slicePick its.toArray none none (some (-1)) = its.reverse.toArray := PySem.W.krv_pick its.toArray
theorem evens_pick {α : Type} : ∀ (xs : List α) (a : Nat) (ys : List α), ys.drop a = xs → (List.range ((xs.length + 1) / 2)).filterMap (fun k => ys[a + 2 * k]?) = Mi.evens xs
  | [], a, ys, _ => by simp [Mi.evens]
  | [x], a, ys, h => by
    have h1 : ys[a]? = some x := by
      have z := congrArg (fun l => l[0]?) h
      simpa using z
    have e : ([x].length + 1) / 2 = 1 := by simp
    rw [e, show List.range 1 = [0] from rfl, List.filterMap_cons_some (b := x) (by simpa using h1)]; rfl
  | x :: y :: r, a, ys, h => by
    have h1 : ys[a]? = some x := by
      have z := congrArg (fun l => l[0]?) h
      simpa using z
    have hd : ys.drop (a + 2) = r := by rw [← List.drop_drop, h]; rfl
    have ih := evens_pick r (a + 2) ys hd
    have hl : (x :: y :: r).length = r.length + 2 := rfl
    rw [show ((x :: y :: r).length + 1) / 2 = (r.length + 1) / 2 + 1 by rw [hl]; omega, List.range_succ_eq_map, List.filterMap_cons_some (b := x) (by simpa using h1), List.filterMap_map]
    show x :: _ = x :: Mi.evens r
    rw [← ih]
    have ef : ((fun k => ys[a + 2 * k]?) ∘ Nat.succ) = fun k => ys[a + 2 + 2 * k]? := funext fun k => by
      show ys[a + 2 * (k + 1)]? = ys[a + 2 + 2 * k]?
      rw [show a + 2 * (k + 1) = a + 2 + 2 * k by omega]
    rw [ef]
theorem pick_even (its : List Value) : slicePick its.toArray none none (some 2) = (Mi.evens its).toArray := by
  have e : sliceBounds none none (some 2) its.toArray.size = (0, (its.length : Int), 2) := by
    rw [List.size_toArray]; rfl
  unfold slicePick
  rw [e]
  have e2 : sliceRange 0 (its.length : Int) 2 = (List.range ((its.length + 1) / 2)).map fun k => 0 + 2 * k := by
    unfold sliceRange
    simp only [show (2 : Int) > 0 by decide, if_true]
    by_cases h : (0 : Int) < its.length
    · rw [if_pos h, show (((its.length : Int) - 0 + 2 - 1) / 2).toNat = (its.length + 1) / 2 by omega]
      apply List.map_congr_left
      intro k _
      omega
    · rw [if_neg h, show (its.length + 1) / 2 = 0 by omega]; rfl
  simp only [e2, List.filterMap_map]
  congr 1
  have := evens_pick its 0 its rfl
  rw [← this]
  have ef : ((fun i => its.toArray[i]?) ∘ fun k => 0 + 2 * k) = fun k => its[0 + 2 * k]? := funext fun k => by
    show its.toArray[0 + 2 * k]? = its[0 + 2 * k]?
    rw [List.getElem?_toArray]
  rw [← ef]
theorem vals_evens {R : V → Value → Prop} : ∀ {xs : List V} {us : List Value}, Paired R xs us → Paired R (Mi.evens xs) (Mi.evens us)
  | _, _, .nil => .nil
  | _, _, .cons h .nil => .cons h .nil
  | _, _, .cons h (.cons _ t) => .cons h (vals_evens t)
theorem evens_len {α : Type} : ∀ xs : List α, (Mi.evens xs).length ≤ xs.length
  | [] => Nat.le_refl _
  | [_] => Nat.le_refl _
  | _ :: _ :: r => by
    have := evens_len r
    show (Mi.evens r).length + 1 ≤ r.length + 1 + 1
    omega
end L2
namespace G
open PySem PySem.Spec PyProof.Rows L2
section
variable {X : Cx} {P : Program} {w : World} {K : PySem.W.Frag} {σ σ' : L2.St} {H : Hp} {F F1 F2 Fu : List Addr} {ta tb te to : TE} {v u x y : V} {i j : Int} {Q : VK} {α β : Type} {τ : Ty α} {υ : Ty β}
def slRev (K : PySem.W.Frag) (te : TE) (t3 : TO) : TE := tSlK K (-1) List.reverse te t3
def slEven (K : PySem.W.Frag) (te : TE) (t3 : TO) : TE := tSlK K 2 Mi.evens te t3
theorem vals_rev {xs : List V} {us : List Value} (r : Vals xs us) : Vals xs.reverse us.reverse := r.reverse
theorem pe_slRev {K : PySem.W.Frag} {e e3 : Expr} {t3 : TO} {pos p2 : Pos} (he : PE X e te) (h3 : PO X (some e3) t3) (e0 : X.K = K := by rfl) : PE X (.Subscript e (.Slice none none (some e3) p2) pos) (slRev K te t3) := by
  subst e0
  exact pe_sliceK (pick := List.reverse) (by decide) pick_rev (fun r => vals_rev r) (fun xs => by rw [List.length_reverse]; exact Nat.le_refl _) he h3
theorem pe_slEven {K : PySem.W.Frag} {e e3 : Expr} {t3 : TO} {pos p2 : Pos} (he : PE X e te) (h3 : PO X (some e3) t3) (e0 : X.K = K := by rfl) : PE X (.Subscript e (.Slice none none (some e3) p2) pos) (slEven K te t3) := by
  subst e0
  exact pe_sliceK (pick := Mi.evens) (by decide) pick_even (fun r => vals_evens r) evens_len he h3
def SlkG (K : PySem.W.Frag) (k : Int) (pv : List V → List V) (x : V) (st : Option Int) (H : Hp) (Q : VK) : Prop := st = some k ∧ ∃ a xs, x = .ref a ∧ SqL K H a xs ∧ ∀ p, H p = none → Q (.ref p) (upd H p (.lst (pv xs)))
theorem w_slRev {t3 : TO} (h : te σ H fun x H1 => t3 σ H1 fun st H2 => SlkG K (-1) List.reverse x st H2 Q) : slRev K te t3 σ H Q := h
theorem w_slEven {t3 : TO} (h : te σ H fun x H1 => t3 σ H1 fun st H2 => SlkG K 2 Mi.evens x st H2 Q) : slEven K te t3 σ H Q := h
theorem pr_evens {R : V → α → Prop} : ∀ {vs : List V} {xs : List α}, Paired R vs xs → Paired R (Mi.evens vs) (Mi.evens xs)
  | _, _, .nil => .nil
  | _, _, .cons h .nil => .cons h .nil
  | _, _, .cons h (.cons _ t) => .cons h (pr_evens t)
theorem pr_reverse {R : V → α → Prop} {vs : List V} {xs : List α} (q : Paired R vs xs) : Paired R vs.reverse xs.reverse := by
  induction q with
  | nil => exact .nil
  | cons h t ih => rw [List.reverse_cons, List.reverse_cons]; exact pr_app ih (.cons h .nil)
theorem x_slRev {xs : List α} (r : (yLst τ).rep K H F v xs) (k : ∀ p H', H p = none → Chg [] H H' → (yLst τ).rep K H' [p] (.ref p) xs.reverse → Q (.ref p) H') : SlkG K (-1) List.reverse v (some (-1)) H Q := by
  obtain ⟨a, vs, rfl, s, q⟩ := lst_sq r
  exact ⟨rfl, a, vs, rfl, s, fun p np => k p _ np (Chg.new np) ⟨p, _, rfl, rfl, upd_same, pr_reverse (Paired.mapP q fun _ _ z => Ty.ex z (Chg.new np))⟩⟩
theorem x_slEven {xs : List α} (r : (yLst τ).rep K H F v xs) (k : ∀ p H', H p = none → Chg [] H H' → (yLst τ).rep K H' [p] (.ref p) (Mi.evens xs) → Q (.ref p) H') : SlkG K 2 Mi.evens v (some 2) H Q := by
  obtain ⟨a, vs, rfl, s, q⟩ := lst_sq r
  exact ⟨rfl, a, vs, rfl, s, fun p np => k p _ np (Chg.new np) ⟨p, _, rfl, rfl, upd_same, pr_evens (Paired.mapP q fun _ _ z => Ty.ex z (Chg.new np))⟩⟩
theorem opt_back {d : Option α} {z : α} (h : d = some z) (nn : v ≠ .non) (r : τ.rep K H F v z) : (yOpt τ).rep K H F v d := by subst h; exact ⟨nn, r⟩
/-! ### extend -/
theorem m_ext {xs ys zs : List α} (r : (yLst τ).rep K H F v xs) (q : (yLst τ).rep K H F2 u ys) (hm : Mi.ext xs ys = some zs) (k : ∀ H', Chg F H H' → (yLst τ).rep K H' F v zs → Q .non H') : rExtend v [u] H Q := by
  obtain ⟨a, vs, rfl, rfl, g, p⟩ := r
  obtain ⟨b, us, rfl, rfl, g2, p2⟩ := q
  unfold Mi.ext at hm
  split at hm
  · rename_i hc
    obtain rfl := Option.some.inj hm
    refine ⟨a, b, vs, us, rfl, rfl, g, g2, ?_, ?_⟩
    · rw [Paired.length p, Paired.length p2]; exact Nat.le_trans hc (by rw [sizeLine_eq]; decide)
    · have c : Chg [a] H (upd H a (.lst (vs ++ us))) := Chg.wr g (fun z => z)
      exact k _ c ⟨a, _, rfl, rfl, upd_same, pr_app (Paired.mapP p fun _ _ z => Ty.fz z c) (Paired.mapP p2 fun _ _ z => Ty.fz z c)⟩
  · cases hm
end
end G

namespace RT
open PySem PySem.Spec PyProof.Rows L2
section
variable {prog : Program} {w : World} {A : Around} {E : Value → Shared → Prop} {s : Shared}
theorem extend_rev {R : Result → Shared → Prop} {it l : Addr} {items : Array Value} (hh : A.handled = none) (hit : s.heap.IsRevIter it l ((items.size : Int) - 1)) (hl : s.heap.IsList l items) (hne : l ≠ it) (hn : items.size ≤ sizeLine)
    (S : Addr) (res : Value) (c₀ : Nat) (hSi : S ≠ it) (hSl : S ≠ l) (hS : s.heap.get? S = some { cls := .type "list", data := .seq #[] c₀ })
    (hR : ∀ (h' : Heap) (tk : Nat) (acc : Array Value) (c' : Nat), (∀ b o, b ≠ S → b ≠ it → s.heap.get? b = some o → h'.get? b = some o) → h'.get? S = some { cls := .type "list", dict := none, data := .seq acc c', slots := #[] } →
      ItemsOf (fun i v => items[items.size - 1 - i]? = some v) acc items.size → R (.ok (.ret res)) { s with heap := h', toks := tk }) :
    wpAny (model prog w) A.in1 (Builtin.List.listExtendWith (.ref S) (.ref it) res)
      (fun fin s' => match fin with | .done f => R (.ok f) s' | .again c' => c'.quiet = true ∧ codeAny (model prog w) A c' R s') (fun e s' => R (.error e) s') s := by
  have W := (Walks.listRev (prog := prog) (w := w) (A := A.in1) hh it l hne items).toS
  have hSf : S ∉ [it, l] := by simp only [List.mem_cons, List.not_mem_nil, or_false, not_or]; exact ⟨hSi, hSl⟩
  have hT : s.TypeIs (.ref it) "list_reverseiterator" := Heap.IsRevIter.typeIs (s := s) hit
  have h1 : Builtin.List.listSameRef (.ref S) (.ref it) = false := by simp [Builtin.List.listSameRef, hSi]
  unfold Builtin.List.listExtendWith
  refine wpAny_bind (wpAny_typeOf hT ?_)
  rw [if_neg (by rw [h1]; decide)]
  refine wpAny_bind (wpAny_pyIter_revIter (s := s) hit ?_)
  refine wpAny_bind (wpAny_holding ?_)
  unfold Builtin.List.listLengthHint
  refine wpAny_bind (wpAny_specialOf hT nolen_lri ?_)
  show wpAny _ A.in1 (specialOf (Value.ref it) (Str.ofString "__length_hint__") >>= _) _ _ _
  refine wpAny_bind (wpAny_specialOf hT hint_lri ?_)
  generalize hid : ("list_reverseiterator.__length_hint__" : String) = id0
  wp_delta
  rw [show splitId id0 = some ("list_reverseiterator", "__length_hint__") from by subst hid; decide +kernel]
  subst hid
  refine wpAny_bind (wpAny_isInstance (b := true) hT (by rw [isSubtype_type]; kernel_rfl) ?_)
  refine wpAny_pure ?_
  rw [if_neg (by decide)]
  have e0 : ((items.size : Nat) : Int) - 1 - ((0 : Nat) : Int) = (items.size : Int) - 1 := by omega
  refine wpAny_pure ⟨plainId_quiet F.plain_extend_loop _, codeAny_extend_loopS W hn S hSf res items.size 0 _ #[] c₀ rfl (Nat.zero_le _) ⟨Nat.zero_le _, by rw [e0]; exact hit, hl⟩ hS (ItemsOf.nil _) fun s' acc' c' hm hS' hacc => ?_⟩
  rw [Moved.eq_with hm]
  refine hR s'.heap s'.toks acc' c' (fun b o hb hb2 e => hm.heap b o (fun hmem => ?_) e) hS' hacc
  rcases List.mem_cons.mp hmem with e' | hmem
  · exact hb e'
  · exact hb2 (List.mem_singleton.mp hmem)
theorem list_init_rev {R : Result → Shared → Prop} {it l : Addr} {items : Array Value} (hh : A.handled = none) (hit : s.heap.IsRevIter it l ((items.size : Int) - 1)) (hl : s.heap.IsList l items) (hne : l ≠ it) (hn : items.size ≤ sizeLine)
    (S : Addr) (hSi : S ≠ it) (hSl : S ≠ l) (hS : s.heap.get? S = some { cls := .type "list", data := .seq #[] })
    (hR : ∀ (h' : Heap) (tk : Nat) (acc : Array Value) (c' : Nat), (∀ b o, b ≠ S → b ≠ it → s.heap.get? b = some o → h'.get? b = some o) → h'.get? S = some { cls := .type "list", dict := none, data := .seq acc c', slots := #[] } →
      ItemsOf (fun i v => items[items.size - 1 - i]? = some v) acc items.size → R (.ok (.ret .none)) { s with heap := h', toks := tk }) :
    wpAny (model prog w) A.in1 (Builtin.«list.__init__» ⟨[.ref S, .ref it], []⟩)
      (fun fin s' => match fin with | .done f => R (.ok f) s' | .again c' => c'.quiet = true ∧ codeAny (model prog w) A c' R s') (fun e s' => R (.error e) s') s := by
  show wpAny _ _ (do let old ← Builtin.List.listItems (.ref S); Builtin.List.listUpdate (.ref S) (fun _ => #[]); letGo old.toList.reverse; Builtin.List.listExtendWith (.ref S) (.ref it) .none) _ _ s
  refine wpAny_bind ?_
  unfold Builtin.List.listItems
  refine wpAny_bind (wpAny_seqItems hS rfl (wpAny_pure ?_))
  show wpAny _ _ (updateSeq S (fun _ => #[]) >>= fun _ => letGo (#[] : Array Value).toList.reverse >>= fun _ => Builtin.List.listExtendWith (.ref S) (.ref it) .none) _ _ s
  refine wpAny_bind (wpAny_updateSeq hS rfl ?_)
  have hS₂ := Heap.get?_update_self (Obj.mapSeq (fun _ => (#[] : Array Value))) hS rfl
  have oth : ∀ b o, b ≠ S → s.heap.get? b = some o → (s.heap.update S (Obj.mapSeq (fun _ => (#[] : Array Value)))).get? b = some o :=
    fun b o hb e => (Heap.get?_update_other _ _ (Ne.symm hb)).trans e
  refine wpAny_bind (wpAny_letGo ?_)
  have hit2 : (s.heap.update S (Obj.mapSeq (fun _ => (#[] : Array Value)))).IsRevIter it l ((items.size : Int) - 1) := hit.at fun o e => oth it o (Ne.symm hSi) e
  have hl2 : (s.heap.update S (Obj.mapSeq (fun _ => (#[] : Array Value)))).IsList l items := let ⟨o, ho, r⟩ := hl; ⟨o, oth l o (Ne.symm hSl) ho, r⟩
  refine extend_rev hh hit2 hl2 hne hn S .none _ hSi hSl hS₂ fun h' tk acc' c' hk hS' hacc => ?_
  exact hR h' tk acc' c' (fun b o hb hb2 e => hk b o hb hb2 (oth b o hb e)) hS' hacc
theorem call_list_rev {it l : Addr} {items : Array Value} {Q : Value → Shared → Prop} (hh : A.handled = none) (hit : s.heap.IsRevIter it l ((items.size : Int) - 1)) (hl : s.heap.IsList l items) (hne : l ≠ it) (hn : items.size ≤ sizeLine)
    (hQ : ∀ (h' : Heap) (tk : Nat) (acc : Array Value) (c' : Nat), (∀ b o, b ≠ it → s.heap.get? b = some o → h'.get? b = some o) → h'.get? s.heap.objs.size = some { cls := .type "list", dict := none, data := .seq acc c', slots := #[] } →
      ItemsOf (fun i v => items[items.size - 1 - i]? = some v) acc items.size → Q (.ref s.heap.objs.size) { s with heap := h', toks := tk }) :
    wpAny (model prog w) A (call (.type "list") [.ref it]) Q E s := by
  obtain ⟨oi, hoi, _⟩ := id hit
  obtain ⟨ol, hol, _⟩ := id hl
  refine callType_codes (Q₁ := fun obj s₁ => obj = .ref s.heap.objs.size ∧ s₁ = { s with heap := s.heap.push { cls := .type "list", data := .seq #[] } }) F.called_list (F.typeCall_list_1 _) F.entry_list_init
    (code_list_new _ ⟨rfl, rfl⟩) fun obj s₁ h₁ => ?_
  obtain ⟨rfl, rfl⟩ := h₁
  have hS : (s.heap.push { cls := .type "list", data := .seq #[] }).get? s.heap.objs.size = some { cls := .type "list", data := .seq #[] } := Heap.get?_push_size _ rfl
  refine ⟨⟨_, hS, rfl⟩, F.args_list_init_2 _ _, list_init_rev (A := A.in1) (s := { s with heap := s.heap.push { cls := .type "list", data := .seq #[] } }) hh (hit.at fun o e => Heap.get?_push_of_some _ e) (hl.push _) hne hn _ (Nat.ne_of_gt (Heap.lt_size hoi)) (Nat.ne_of_gt (Heap.lt_size hol)) hS fun h' tk acc' c' hk hS' hacc => ?_⟩
  exact ⟨rfl, hQ h' tk acc' c' (fun b o hb e => hk b o (Nat.ne_of_lt (Heap.lt_size e)) hb (Heap.get?_push_of_some _ e)) hS' hacc⟩
end
end RT
namespace L2
open PySem PySem.Spec PyProof.Rows RT
section
variable {X : Cx}
def tLstRev (K : PySem.W.Frag) (te : TE) : TE := fun σ H Q => te σ H fun v H1 => ∃ (a : Addr) (xs : List V), v = .ref a ∧ SqL K H1 a xs ∧ ∀ q, H1 q = none → Q (.ref q) (upd H1 q (.lst xs.reverse))
theorem pe_listRev {e : Expr} {te : TE} {p p2 pos pos2 : Pos} (hc : X.calm = true) (hg : Gl X "list") (hm : X.mg "list" = none) (hg2 : Gl X "reversed") (hm2 : X.mg "reversed" = none) (he : PE X e te)
    (hs : starEach [e] X.env = (false, eval e X.env) :: starEach [] X.env := by rfl)
    (hs2 : starEach [.Call (.Name "reversed" p2) [e] [] pos2] X.env = (false, eval (.Call (.Name "reversed" p2) [e] [] pos2) X.env) :: starEach [] X.env := by rfl) :
    PE X (.Call (.Name "list" p) [.Call (.Name "reversed" p2) [e] [] pos2] [] pos) (tLstRev X.K te) := by
  refine ⟨fun pins s σ H Q I h => ?_⟩
  refine Call_ (ld_blt I hg hm boot_list (PyProof.Rows.callWith_type1 (args_cons (Call_ (ld_blt I hg2 hm2 PyProof.Rows.boot_reversed (PyProof.Rows.callWith_type1 (args_cons (thn (he.run pins s σ H _ I h) fun u s1 ⟨v, H1, I1, r1, q1⟩ => args_nil ?_) hs) hs rfl))) hs2) hs2 rfl))
  obtain ⟨a, xs, ev, hq, q⟩ := q1
  subst ev
  obtain rfl : u = Value.ref a := r1
  obtain ⟨its, rv, p', hz⟩ := I1.list hq
  refine call_reversed_list p'.isList (args_nil ?_)
  have k0 : ∀ b o, s1.heap.get? b = some o → (s1.heap.push (revObj a ((its.toArray.size : Int) - 1))).get? b = some o := fun b o e => Heap.get?_push_of_some _ e
  have I2 : Inv X pins σ H1 { s1 with heap := s1.heap.push (revObj a ((its.toArray.size : Int) - 1)) } := I1.kept (t' := s1.toks) k0
  obtain ⟨f0, f1, f2, f3, f4, f5⟩ := I1.fpOk (H' := H1) (b := s1.heap.objs.size) (Nat.le_refl _) (I1.hok.fresh (Nat.le_refl _))
  have hl := p'.isList
  obtain ⟨ol, hol, _⟩ := id hl
  have hne : a ≠ s1.heap.objs.size := Nat.ne_of_lt (Heap.lt_size hol)
  have hn : its.toArray.size ≤ sizeLine := by rw [List.size_toArray, ← rv.length]; exact hz
  refine call_list_rev (s := { s1 with heap := s1.heap.push (revObj a ((its.toArray.size : Int) - 1)) }) (I1.ok.hd hc) ⟨_, Heap.get?_push_size _ rfl, rfl, rfl⟩ (hl.push _) hne hn fun h' tk acc c' hk hS' hi => ?_
  have hsz : (s1.heap.push (revObj a ((its.toArray.size : Int) - 1))).objs.size = s1.heap.objs.size + 1 := Heap.size_push ..
  rw [hsz] at hS' ⊢
  refine ⟨.ref (s1.heap.objs.size + 1), upd H1 (s1.heap.objs.size + 1) (.lst xs.reverse), I1.laid (t' := tk) (fun c o e => hk c o (Nat.ne_of_lt (Heap.lt_size e)) (k0 c o e)) (Nat.le_succ _) (show ObjOk X.prog X.w _ _ _ (.lst xs.reverse) from ⟨by rw [List.length_reverse]; exact hz, acc.toList, c', vals_rev rv hi, ?_⟩), rfl, q _ (I1.hok.fresh (Nat.le_succ _))⟩
  rw [Array.toArray_toList]
  exact hS'
end
end L2
namespace G
open PySem PySem.Spec PyProof.Rows L2
section
variable {X : Cx} {K : PySem.W.Frag} {σ σ' : L2.St} {H : Hp} {F : List Addr} {te : TE} {v : V} {Q : VK} {α : Type} {τ : Ty α}
theorem pe_listRevK {K : PySem.W.Frag} {e : Expr} {p p2 pos pos2 : Pos} (hc : X.calm = true) (hg : Gl X "list") (hm : X.mg "list" = none) (hg2 : Gl X "reversed") (hm2 : X.mg "reversed" = none) (he : PE X e te) (e0 : X.K = K := by rfl)
    (hs : starEach [e] X.env = (false, eval e X.env) :: starEach [] X.env := by rfl)
    (hs2 : starEach [.Call (.Name "reversed" p2) [e] [] pos2] X.env = (false, eval (.Call (.Name "reversed" p2) [e] [] pos2) X.env) :: starEach [] X.env := by rfl) :
    PE X (.Call (.Name "list" p) [.Call (.Name "reversed" p2) [e] [] pos2] [] pos) (tLstRev K te) := by subst e0; exact pe_listRev hc hg hm hg2 hm2 he hs hs2
def LrvG (K : PySem.W.Frag) (v : V) (H1 : Hp) (Q : VK) : Prop := ∃ (a : Addr) (xs : List V), v = .ref a ∧ SqL K H1 a xs ∧ ∀ q, H1 q = none → Q (.ref q) (upd H1 q (.lst xs.reverse))
theorem w_lrev (h : te σ H fun v H1 => LrvG K v H1 Q) : tLstRev K te σ H Q := h
theorem x_lrev {xs : List α} (r : (yLst τ).rep K H F v xs) (k : ∀ p H', H p = none → Chg [] H H' → (yLst τ).rep K H' [p] (.ref p) xs.reverse → Q (.ref p) H') : LrvG K v H Q := by
  obtain ⟨a, vs, rfl, s, q⟩ := lst_sq r
  exact ⟨a, vs, rfl, s, fun p np => k p _ np (Chg.new np) ⟨p, _, rfl, rfl, upd_same, pr_reverse (Paired.mapP q fun _ _ z => Ty.ex z (Chg.new np))⟩⟩
/-! ### a list of things that stand already -/
theorem e_appG1 {D : Addr} {u : V} {Fu : List Addr} {N : Hp → Prop} {xs ys : List α} {d : α} (r : (yLsg τ).rep K H F (.ref D) xs) (ru : τ.rep K H Fu u d) (np : D ∉ Fu) (hm : Mi.app xs d = some ys)
    (k : ∀ H' F', Chg [D] H H' → (yLsg τ).rep K H' F' (.ref D) ys → Sub F' (F ++ Fu) → N H') : AppG D N u H := by
  obtain ⟨p, vs, G, e, rfl, na, g, dm, q⟩ := r
  obtain rfl := V.ref.inj e
  unfold Mi.app at hm
  split at hm
  · rename_i hz
    cases hm
    have c : Chg [D] H (upd H D (.lst (vs ++ [u]))) := Chg.wr g (fun z => z)
    have kp : ∀ {γ : Type} {ρ : Ty γ} {Fi : List Addr} {w : V} {e : γ}, ρ.rep K H Fi w e → D ∉ Fi → ρ.rep K (upd H D (.lst (vs ++ [u]))) Fi w e := fun rr hn => Ty.chg rr c fun b hb z => by
      rw [List.mem_singleton] at z; subst z; exact hn hb
    refine ⟨vs, g, Nat.lt_of_lt_of_le (by rw [pr_len q]; exact hz) line_big, k _ (D :: (G ++ Fu)) c ⟨D, _, G ++ Fu, rfl, rfl, ?_, upd_same, ?_, ?_⟩ ?_⟩
    · intro hp
      exact (List.mem_append.mp hp).elim na np
    · intro b hb
      have hbp : b ≠ D := fun e => by subst e; exact (List.mem_append.mp hb).elim na np
      obtain ⟨o, ho, hf⟩ := dm_app dm (Ty.dm ru) b hb
      exact ⟨o, by rw [upd_ne hbp]; exact ho, hf⟩
    · refine pr_app (Paired.mapP q fun w e z => ?_) (.cons ⟨Fu, kp ru np, fun b hb => List.mem_append_right _ hb⟩ .nil)
      obtain ⟨Fi, rr, sb⟩ := z
      exact ⟨Fi, kp rr fun hp => na (sb D hp), fun b hb => List.mem_append_left _ (sb b hb)⟩
    · intro b hb
      rcases List.mem_cons.mp hb with rfl | hb
      · exact List.mem_append_left _ (List.mem_cons_self ..)
      · rcases List.mem_append.mp hb with hb | hb
        · exact List.mem_append_left _ (List.mem_cons_of_mem _ hb)
        · exact List.mem_append_right _ hb
  · cases hm
theorem old_nin {D : Addr} {Fx Fi : List Addr} (d : Dj Fx [D]) (su : Sub Fi Fx) : D ∉ Fi := fun h => d D (su D h) (List.mem_singleton.mpr rfl)
theorem old_grow {D : Addr} {Fx Fi Fa F' : List Addr} (s0 : Sub Fa (D :: Fx)) (su : Sub Fi Fx) (s : Sub F' (Fa ++ Fi)) : Sub F' (D :: Fx) := fun a h => by
  rcases List.mem_append.mp (s a h) with z | z
  · exact s0 a z
  · exact List.mem_cons_of_mem _ (su a z)
theorem old_one {D : Addr} {Fx : List Addr} : Sub [D] (D :: Fx) := fun a h => by
  rw [List.mem_singleton] at h; subst h; exact List.mem_cons_self ..
theorem old_dj {D : Addr} {Fo Fx Fa : List Addr} (d1 : Dj Fo [D]) (d2 : Dj Fo Fx) (s : Sub Fa (D :: Fx)) : Dj Fo Fa := fun a h z => by
  rcases List.mem_cons.mp (s a z) with e | e
  · exact d1 a h (by rw [e]; exact List.mem_singleton.mpr rfl)
  · exact d2 a h e
end
end G

namespace G
open PySem PySem.Spec PyProof.Rows L2
def topS (i : Nat) : Stmt := PySem.Challenge.pw_fogfleet_k16_corridor_of_reports.main.body.getD i (.Pass ⟨0, 0, 0, 0⟩)
structure Cs (K : PySem.W.Frag) (mg : Str → Option Value) : Prop where
  c_GREATEST_DEPTH : ∃ t, mg "GREATEST_DEPTH" = some (.int 99 t)
  c_GREATEST_TIDE : ∃ t, mg "GREATEST_TIDE" = some (.int 20 t)
  c_LAST_HOUR : ∃ t, mg "LAST_HOUR" = some (.int 24 t)
  c_LAST_SHIP : ∃ t, mg "LAST_SHIP" = some (.int 3 t)
  c_MOST_PLACES : ∃ t, mg "MOST_PLACES" = some (.int 12 t)
  c_MOST_TIDE_NUMBERS : ∃ t, mg "MOST_TIDE_NUMBERS" = some (.int 12 t)
  c_MOST_WEIGHT : ∃ t, mg "MOST_WEIGHT" = some (.int 99 t)
  c_PLACES : ∃ t, mg "PLACES" = some (.int 12 t)
  d_Chart_tide : ∀ H, (yTupL yInt).rep K H [] (.ref (kwdAt ("Chart", some "__init__") "tide" K)) ([0] : List Int)
  d_Chart_harbours : ∀ H, (yTupL yInt).rep K H [] (.ref (kwdAt ("Chart", some "__init__") "harbours" K)) ([] : List Int)
abbrev nm_Report : List Str := ["ship", "hour", "zone", "weight", "inside"]
abbrev ty_Report : Tys (Int × Int × (List Int) × Int × Bool) := (sCons yInt (sCons yInt (sCons (yTupL yInt) (sCons yInt (sOne yBool)))))
abbrev kw_Report (K : PySem.W.Frag) : List (Str × V) := [("weight", .int 1), ("inside", .bl true)]
abbrev nm_Chart : List Str := ["size", "depths", "lanes", "tide", "harbours", "joined"]
abbrev ty_Chart : Tys (Int × (List Int) × (List (Int × Int)) × (List Int) × (List Int) × (List (List Int))) := (sCons yInt (sCons (yTupL yInt) (sCons (yTupL (yTup (sCons yInt (sOne yInt)))) (sCons (yTupL yInt) (sCons (yTupL yInt) (sOne (yTupL (yTupL yInt))))))))
abbrev kw_Chart (K : PySem.W.Frag) : List (Str × V) := [("tide", .ref (kwdAt ("Chart", some "__init__") "tide" K)), ("harbours", .ref (kwdAt ("Chart", some "__init__") "harbours" K))]
section
variable {P : Program} {w : World} {K : PySem.W.Frag} {mg : Str → Option Value}
abbrev s_ascending : Stmt := topS 6
abbrev N_ascending : List Str := ["zone"]
theorem sc_ascending : FnScope ["zone"] ["zone"] (defScope s_ascending) := ⟨rfl, rfl, rfl, by decide +kernel, rfl, by decide +kernel, by decide +kernel⟩
def sp_ascending (K : PySem.W.Frag) : Sp := fun vs H Q _ => (∃ (v0 : V) (F0 : List Addr) (d0 : (List Int)) (r : (List Int)), vs = [v0] ∧ (yLst yInt).rep K H F0 v0 d0 ∧ Mi.m_ascending_0 d0 = some r ∧ ∀ v H' F, Chg ([]) H H' → (yLst yInt).rep K H' F v r → (∀ a ∈ F, H a = none) → Q v H') ∨ (∃ (v0 : V) (d0 : (List Int)) (r : (List Int)), vs = [v0] ∧ (yTupL yInt).rep K H [] v0 d0 ∧ Mi.m_ascending_1 d0 = some r ∧ ∀ v H' F, Chg ([]) H H' → (yLst yInt).rep K H' F v r → (∀ a ∈ F, H a = none) → Q v H')
theorem ok_ascending (B : Bi mg) (CN : Cs K mg) (D : Dfn K mg "ascending" s_ascending)  : Cal P w K mg "ascending" ["zone"] 1 (sp_ascending K) := by
  obtain ⟨f, fd, F, g⟩ := D.ex
  refine ⟨f, fd, g, F.kp, bindsF F (fun _ _ _ _ _ _ us hl => match us, hl with | [_], _ => rfl), fun base => F.ok sc_ascending (fun vs H Q E h => ?_) (fun cdv A outer s H0 vs Q E hr h => ?_)⟩
  · rcases h with ⟨v0, F0, d0, r, rfl, r0, hm, hQ⟩ | ⟨v0, d0, r, rfl, r0, hm, hQ⟩
    all_goals rfl
  · rcases h with h | h
    ·
      obtain ⟨v0, F0, d0, r, rfl, r0, hm, hQ⟩ := h
      refine ⟨_, pss_cons (ps_ret (pe_callB (cl_sortedL (K := K)) (by rfl) B.sorted (by decide +kernel) (pa_cons (pv 0) pa_nil))) pss_nil, ?_⟩
      have c0 : Chg ([] : List Addr) H0 H0 := Chg.refl H0
      unfold Mi.m_ascending_0 at hm
      refine q_ret ?_
      refine w_cb ?_
      refine w_args (va_cons (val_var rfl) va_nil) ?_
      refine w_sortedL r0 fun p2 H6 np5 c3 r4 => ?_
      have d7 : Dj F0 [p2] := Ty.nin r0 np5
      have n8 : ∀ a ∈ [p2], H0 a = none := one_fresh (c0.dom p2 np5)
      have r0 := Ty.ex r0 c3
      have c0 := c0.trans c3.none
      obtain rfl := Option.some.inj hm
      exact hQ _ _ _ c0 r4 n8 
    ·
      obtain ⟨v0, d0, r, rfl, r0, hm, hQ⟩ := h
      refine ⟨_, pss_cons (ps_ret (pe_callB (cl_sortedT (K := K)) (by rfl) B.sorted (by decide +kernel) (pa_cons (pv 0) pa_nil))) pss_nil, ?_⟩
      have c0 : Chg ([] : List Addr) H0 H0 := Chg.refl H0
      unfold Mi.m_ascending_1 at hm
      refine q_ret ?_
      refine w_cb ?_
      refine w_args (va_cons (val_var rfl) va_nil) ?_
      refine w_sortedT r0 fun p2 H6 np5 c3 r4 => ?_
      have n7 : ∀ a ∈ [p2], H0 a = none := one_fresh (c0.dom p2 np5)
      have r0 := Ty.fz r0 c3
      have c0 := c0.trans c3.none
      obtain rfl := Option.some.inj hm
      exact hQ _ _ _ c0 r4 n7 
abbrev s_is_zone : Stmt := topS 7
abbrev N_is_zone : List Str := ["zone", "size", "found", "place"]
theorem sc_is_zone : FnScope ["zone", "size", "found", "place"] ["zone", "size"] (defScope s_is_zone) := ⟨rfl, rfl, rfl, by decide +kernel, rfl, by decide +kernel, by decide +kernel⟩
def sp_is_zone (K : PySem.W.Frag) : Sp := fun vs H Q _ => (∃ (v0 : V) (F0 : List Addr) (d0 : (List Int)) (d1 : Int) (r : Bool), vs = [v0, (.int d1)] ∧ (yLst yInt).rep K H F0 v0 d0 ∧ Mi.m_is_zone_0 d0 d1 = some r ∧ ∀ H', Chg ([]) H H' → Q (.bl r) H') ∨ (∃ (v0 : V) (d0 : (List Int)) (d1 : Int) (r : Bool), vs = [v0, (.int d1)] ∧ (yTupL yInt).rep K H [] v0 d0 ∧ Mi.m_is_zone_1 d0 d1 = some r ∧ ∀ H', Chg ([]) H H' → Q (.bl r) H')
theorem ok_is_zone (B : Bi mg) (CN : Cs K mg) (D : Dfn K mg "is_zone" s_is_zone)  : Cal P w K mg "is_zone" ["zone", "size"] 1 (sp_is_zone K) := by
  obtain ⟨f, fd, F, g⟩ := D.ex
  refine ⟨f, fd, g, F.kp, bindsF F (fun _ _ _ _ _ _ us hl => match us, hl with | [_, _], _ => rfl), fun base => F.ok sc_is_zone (fun vs H Q E h => ?_) (fun cdv A outer s H0 vs Q E hr h => ?_)⟩
  · rcases h with ⟨v0, F0, d0, d1, r, rfl, r0, hm, hQ⟩ | ⟨v0, d0, d1, r, rfl, r0, hm, hQ⟩
    all_goals rfl
  · rcases h with h | h
    ·
      obtain ⟨v0, F0, d0, d1, r, rfl, r0, hm, hQ⟩ := h
      refine ⟨_, pss_cons (ps_set (i := 2) sc_is_zone.nd rfl (.inl rfl) (pe_callTy0 (cl_set0 (w := w)) (by rfl) B.set (by decide +kernel)))
      (pss_cons (ps_for PassesOwn.never rfl (pi_list (pv 0)) (pg_name (i := 3) sc_is_zone.nd rfl (.inl rfl)) (pss_cons (ps_if (PW.pt (pw_or (pt_cmpR op_lt (pv 3) pe_int (nomark _)) (pw_or (pt_cmpR op_ge (pv 3) (pv 1) (nomark _)) (pw_or1 (pt_cmpR (op_in_s (w := w)) (pv 3) (pv 2) (by rfl)))))) (pss_cons (ps_ret pe_bl) pss_nil) (pss_nil))
      (pss_cons (ps_expr (pe_sadd (pv 2) (pa_cons (pv 3) pa_nil)))
      (pss_nil))))
      (pss_cons (ps_ret pe_bl) pss_nil)), ?_⟩
      have c0 : Chg ([] : List Addr) H0 H0 := Chg.refl H0
      unfold Mi.m_is_zone_0 at hm
      refine q_asg ?_
      refine w_cb ?_
      refine w_nil ?_
      refine w_set0 (K := K) (w := w) fun p3 H7 np6 c4 r5 => ?_
      have d8 : Dj F0 [p3] := Ty.nin r0 np6
      have n9 : ∀ a ∈ [p3], H0 a = none := one_fresh (c0.dom p3 np6)
      have r0 := Ty.ex r0 c4
      have c0 := c0.trans c4.none
      refine g_name (σ' := [some v0, some (.int d1), some (.ref p3), none]) rfl ?_
      refine q_for ?_
      refine w_iList ?_
      refine c_val (val_var rfl) ?_
      obtain ⟨e10, he10, hm⟩ := Mi.bnd hm
      refine l_lst r0 (fun i σ' H' => ∃ (s11 : (List Int)) (y12 : Option V), σ' = [some v0, some (.int d1), some (.ref p3), y12] ∧ Chg ([] : List Addr) H0 H' ∧ (yLst yInt).rep K H' F0 v0 d0 ∧ (ySet w).rep K H' [p3] (.ref p3) s11 ∧ Mi.forR (Mi.m_is_zone_0_b1 d1) s11 (List.drop i d0) = some e10) ⟨([] : List Int), none, rfl, c0, r0, r5, he10⟩ (fun i σ' H' hp => by obtain ⟨s11, y12, rfl, c0, r0, r5, _⟩ := hp; exact r0) (fun i15 x14 u16 σ' H' hx13 r17 hp => ?_) (fun σ' H' hp => ?_)
      ·
        obtain ⟨s11, y12, rfl, c0, r0, r5, hle10⟩ := hp
        obtain ⟨o18, hbe10, hore10⟩ := Mi.forR_go hle10 hx13
        unfold Mi.m_is_zone_0_b1 at hbe10
        obtain ⟨_, rfl⟩ := r17
        refine g_name (σ' := [some v0, some (.int d1), some (.ref p3), some (.int x14)]) rfl ?_
        refine q_if (ans_orB (ans_t (val_lt (val_var rfl) val_c)) (fun _ => (ans_orB (ans_t (val_ge (val_var rfl) (val_var rfl))) (fun _ => (ans_t (val_inS r5 (val_var rfl) (val_var rfl))))))) (fun hb => ?_) (fun hb => ?_)
        ·
          replace hbe10 := Mi.ifT hb hbe10
          refine q_ret ?_
          refine c_val val_c ?_
          obtain rfl := Option.some.inj hbe10
          obtain rfl := Mi.or_inl hore10
          obtain rfl := Option.some.inj (Mi.orR_inl hm)
          exact hQ _ c0 
        replace hbe10 := Mi.ifF hb hbe10
        refine w_fall ?_
        refine q_drop (w_sadd (c_val (val_var rfl) ⟨tyv_set r5, ?_⟩))
        refine w_args (va_cons (val_var rfl) va_nil) ?_
        obtain ⟨x21, hx21, hbe10⟩ := Mi.bnd hbe10
        refine m_sadd r5 hx21 fun H23 c22 r5 => ?_
        have r0 := Ty.chg r0 c22 d8
        have c0 := c0.join c22 (fun a h => .inr (n9 a h))
        refine w_nextJ ?_
        obtain rfl := Option.some.inj hbe10
        replace hore10 := Mi.or_inr hore10
        exact ⟨_, (some (.int x14)), rfl, c0, r0, r5, hore10⟩
      obtain ⟨s11, y12, rfl, c0, r0, r5, hle10⟩ := hp
      obtain rfl := Mi.forR_end hle10
      replace hm := Mi.orR_inr hm
      refine q_ret ?_
      refine c_val val_c ?_
      obtain rfl := Option.some.inj hm
      exact hQ _ c0 
    ·
      obtain ⟨v0, d0, d1, r, rfl, r0, hm, hQ⟩ := h
      refine ⟨_, pss_cons (ps_set (i := 2) sc_is_zone.nd rfl (.inl rfl) (pe_callTy0 (cl_set0 (w := w)) (by rfl) B.set (by decide +kernel)))
      (pss_cons (ps_for PassesOwn.never rfl (pi_tup (pv 0)) (pg_name (i := 3) sc_is_zone.nd rfl (.inl rfl)) (pss_cons (ps_if (PW.pt (pw_or (pt_cmpR op_lt (pv 3) pe_int (nomark _)) (pw_or (pt_cmpR op_ge (pv 3) (pv 1) (nomark _)) (pw_or1 (pt_cmpR (op_in_s (w := w)) (pv 3) (pv 2) (by rfl)))))) (pss_cons (ps_ret pe_bl) pss_nil) (pss_nil))
      (pss_cons (ps_expr (pe_sadd (pv 2) (pa_cons (pv 3) pa_nil)))
      (pss_nil))))
      (pss_cons (ps_ret pe_bl) pss_nil)), ?_⟩
      have c0 : Chg ([] : List Addr) H0 H0 := Chg.refl H0
      unfold Mi.m_is_zone_1 at hm
      refine q_asg ?_
      refine w_cb ?_
      refine w_nil ?_
      refine w_set0 (K := K) (w := w) fun p3 H7 np6 c4 r5 => ?_
      have n8 : ∀ a ∈ [p3], H0 a = none := one_fresh (c0.dom p3 np6)
      have r0 := Ty.fz r0 c4
      have c0 := c0.trans c4.none
      refine g_name (σ' := [some v0, some (.int d1), some (.ref p3), none]) rfl ?_
      refine q_for ?_
      refine w_iTup ?_
      refine c_val (val_var rfl) ?_
      obtain ⟨e9, he9, hm⟩ := Mi.bnd hm
      refine l_tup r0 (fun i σ' H' => ∃ (s10 : (List Int)) (y11 : Option V), σ' = [some v0, some (.int d1), some (.ref p3), y11] ∧ Chg ([] : List Addr) H0 H' ∧ (yTupL yInt).rep K H' [] v0 d0 ∧ (ySet w).rep K H' [p3] (.ref p3) s10 ∧ Mi.forR (Mi.m_is_zone_1_b1 d1) s10 (List.drop i d0) = some e9) ⟨([] : List Int), none, rfl, c0, r0, r5, he9⟩ (fun i σ' H' hp => by obtain ⟨s10, y11, rfl, c0, r0, r5, _⟩ := hp; exact r0) (fun i14 x13 u15 σ' H' hx12 r16 hp => ?_) (fun σ' H' hp => ?_)
      ·
        obtain ⟨s10, y11, rfl, c0, r0, r5, hle9⟩ := hp
        obtain ⟨o17, hbe9, hore9⟩ := Mi.forR_go hle9 hx12
        unfold Mi.m_is_zone_1_b1 at hbe9
        obtain ⟨_, rfl⟩ := r16
        refine g_name (σ' := [some v0, some (.int d1), some (.ref p3), some (.int x13)]) rfl ?_
        refine q_if (ans_orB (ans_t (val_lt (val_var rfl) val_c)) (fun _ => (ans_orB (ans_t (val_ge (val_var rfl) (val_var rfl))) (fun _ => (ans_t (val_inS r5 (val_var rfl) (val_var rfl))))))) (fun hb => ?_) (fun hb => ?_)
        ·
          replace hbe9 := Mi.ifT hb hbe9
          refine q_ret ?_
          refine c_val val_c ?_
          obtain rfl := Option.some.inj hbe9
          obtain rfl := Mi.or_inl hore9
          obtain rfl := Option.some.inj (Mi.orR_inl hm)
          exact hQ _ c0 
        replace hbe9 := Mi.ifF hb hbe9
        refine w_fall ?_
        refine q_drop (w_sadd (c_val (val_var rfl) ⟨tyv_set r5, ?_⟩))
        refine w_args (va_cons (val_var rfl) va_nil) ?_
        obtain ⟨x20, hx20, hbe9⟩ := Mi.bnd hbe9
        refine m_sadd r5 hx20 fun H22 c21 r5 => ?_
        have r0 := Ty.fz r0 c21
        have c0 := c0.join c21 (fun a h => .inr (n8 a h))
        refine w_nextJ ?_
        obtain rfl := Option.some.inj hbe9
        replace hore9 := Mi.or_inr hore9
        exact ⟨_, (some (.int x13)), rfl, c0, r0, r5, hore9⟩
      obtain ⟨s10, y11, rfl, c0, r0, r5, hle9⟩ := hp
      obtain rfl := Mi.forR_end hle9
      replace hm := Mi.orR_inr hm
      refine q_ret ?_
      refine c_val val_c ?_
      obtain rfl := Option.some.inj hm
      exact hQ _ c0 
abbrev s_Report_init : Stmt := inClass (topS 13) 0
abbrev N_Report_init : List Str := ["self", "ship", "hour", "zone", "weight", "inside"]
theorem sc_Report_init : FnScope ["self", "ship", "hour", "zone", "weight", "inside"] ["self", "ship", "hour", "zone", "weight", "inside"] (defScope s_Report_init) := ⟨rfl, rfl, rfl, by decide +kernel, rfl, by decide +kernel, by decide +kernel⟩
def sp_Report_init (K : PySem.W.Frag) (C_Report : Addr) : Sp := fun vs H Q _ => (∃ (x0 dx0 : Addr) (d1 : Int) (d2 : Int) (v3 : V) (F3 : List Addr) (d3 : (List Int)) (d4 : Int) (d5 : Bool) (r : (Int × Int × (List Int) × Int × Bool)), vs = [.ref x0, (.int d1), (.int d2), v3, (.int d4), (.bl d5)] ∧ (yPart C_Report dx0 []).rep K H [x0] (.ref x0) [] ∧ (yLst yInt).rep K H F3 v3 d3 ∧ Dj [x0] F3 ∧ Mi.m_Report_init_0 d1 d2 d3 d4 d5 = some r ∧ ∀ H', Chg [x0] H H' → (yObj C_Report nm_Report ty_Report).rep K H' [] (.ref x0) r → Q .non H') ∨ (∃ (x0 dx0 : Addr) (d1 : Int) (d2 : Int) (v3 : V) (d3 : (List Int)) (d4 : Int) (d5 : Bool) (r : (Int × Int × (List Int) × Int × Bool)), vs = [.ref x0, (.int d1), (.int d2), v3, (.int d4), (.bl d5)] ∧ (yPart C_Report dx0 []).rep K H [x0] (.ref x0) [] ∧ (yTupL yInt).rep K H [] v3 d3 ∧ Mi.m_Report_init_1 d1 d2 d3 d4 d5 = some r ∧ ∀ H', Chg [x0] H H' → (yObj C_Report nm_Report ty_Report).rep K H' [] (.ref x0) r → Q .non H')
theorem ok_Report_init (B : Bi mg) (CN : Cs K mg) {C_Report : Addr} (T_Report : Tx K mg C_Report "Report" nm_Report) (C_ascending : Cal P w K mg "ascending" ["zone"] 1 (sp_ascending K)) (C_is_zone : Cal P w K mg "is_zone" ["zone", "size"] 1 (sp_is_zone K)) (D : DfnI K C_Report "Report.__init__" s_Report_init (kw_Report K) ) : CalI P w K mg C_Report "Report.__init__" s_Report_init (kw_Report K) ["self", "ship", "hour", "zone", "weight", "inside"] 2 (sp_Report_init K C_Report) := by
  obtain ⟨f, fd, F, g⟩ := D.ex
  refine ⟨f, fd, g, F, fun base => okD F sc_Report_init (fun vs H Q E h => ?_) (fun cdv A outer s H0 vs Q E hr h => ?_)⟩
  · rcases h with ⟨x0, dx0, d1, d2, v3, F3, d3, d4, d5, r, rfl, rs, r3, dd0_3, hm, hQ⟩ | ⟨x0, dx0, d1, d2, v3, d3, d4, d5, r, rfl, rs, r3, hm, hQ⟩
    all_goals rfl
  · rcases h with h | h
    ·
      obtain ⟨x0, dx0, d1, d2, v3, F3, d3, d4, d5, r, rfl, rs, r3, dd0_3, hm, hQ⟩ := h
      refine ⟨_, pss_cons (ps_if (PW.pt (pw_or (pt_cmpR op_lt (pv 1) pe_int (nomark _)) (pw_or1 (pt_cmpR op_gt (pv 1) (pe_glob (v := .int 3) (by rfl) CN.c_LAST_SHIP.choose_spec ⟨_, rfl⟩) (nomark _))))) (pss_cons ps_never pss_nil) (pss_nil))
      (pss_cons (ps_if (PW.pt (pw_or (pt_cmpR op_lt (pv 2) pe_int (nomark _)) (pw_or1 (pt_cmpR op_gt (pv 2) (pe_glob (v := .int 24) (by rfl) CN.c_LAST_HOUR.choose_spec ⟨_, rfl⟩) (nomark _))))) (pss_cons ps_never pss_nil) (pss_nil))
      (pss_cons (ps_if (pt_not (pt_val (pe_cc C_is_zone hr (pa_cons (pv 3) (pa_cons (pe_glob (v := .int 12) (by rfl) CN.c_PLACES.choose_spec ⟨_, rfl⟩) pa_nil))))) (pss_cons ps_never pss_nil) (pss_nil))
      (pss_cons (ps_if (PW.pt (pw_or (pt_cmpR op_lt (pv 4) pe_int (nomark _)) (pw_or1 (pt_cmpR op_gt (pv 4) (pe_glob (v := .int 99) (by rfl) CN.c_MOST_WEIGHT.choose_spec ⟨_, rfl⟩) (nomark _))))) (pss_cons ps_never pss_nil) (pss_nil))
      (pss_cons (ps_fld (pv 0) (pv 1) rfl)
      (pss_cons (ps_fld (pv 0) (pv 2) rfl)
      (pss_cons (ps_fld (pv 0) (pe_callTy (cl_tuple (K := K)) (by rfl) B.tuple (by decide +kernel) (pa_cons (pe_cc C_ascending hr (pa_cons (pv 3) pa_nil)) pa_nil)) rfl)
      (pss_cons (ps_fld (pv 0) (pv 4) rfl)
      (pss_cons (ps_fld (pv 0) (pv 5) rfl)
      (pss_nil))))))))), ?_⟩
      have c0 : Chg ([x0]) H0 H0 := Chg.refl H0
      unfold Mi.m_Report_init_0 at hm
      refine q_if (ans_orB (ans_t (val_lt (val_var rfl) val_c)) (fun _ => (ans_t (val_gt (val_var rfl) val_c)))) (fun hb => ?_) (fun hb => ?_)
      ·
        replace hm := Mi.ifT hb hm
        cases hm
      replace hm := Mi.ifF hb hm
      refine w_fall ?_
      refine q_if (ans_orB (ans_t (val_lt (val_var rfl) val_c)) (fun _ => (ans_t (val_gt (val_var rfl) val_c)))) (fun hb => ?_) (fun hb => ?_)
      ·
        replace hm := Mi.ifT hb hm
        cases hm
      replace hm := Mi.ifF hb hm
      refine w_fall ?_
      refine q_ifS ?_
      refine w_not ?_
      refine w_B ?_
      refine w_call ?_
      refine w_args (va_cons (val_var rfl) (va_cons val_c va_nil)) ?_
      obtain ⟨q9, hq9, hm⟩ := Mi.bnd hm
      refine Or.inl ⟨v3, F3, d3, (12 : Int), q9, rfl, r3, hq9, fun H11 c10  => ?_⟩
      have rs := Ty.ex rs c10
      have r3 := Ty.ex r3 c10
      have c0 := c0.trans c10.none
      refine ⟨_, rfl, ?_⟩
      refine c_if (fun hb => ?_) (fun hb => ?_)
      ·
        replace hm := Mi.ifT hb hm
        cases hm
      replace hm := Mi.ifF hb hm
      refine w_fall ?_
      refine q_if (ans_orB (ans_t (val_lt (val_var rfl) val_c)) (fun _ => (ans_t (val_gt (val_var rfl) val_c)))) (fun hb => ?_) (fun hb => ?_)
      ·
        replace hm := Mi.ifT hb hm
        cases hm
      replace hm := Mi.ifF hb hm
      refine w_fall ?_
      refine q_fld ?_
      refine c_val (val_var rfl) ?_
      refine c_val (val_var rfl) ?_
      refine m_fldP rs T_Report.cls (T_Report.na "ship" (by decide +kernel)) (by decide +kernel) rfl (by decide) rfl fun H14 c13 rs => ?_
      have r3 := Ty.chg r3 c13 dd0_3.symm
      have c0 := c0.join c13 (fun a h => .inl (h))
      have rs : (yPart C_Report dx0 (["ship"] : List Str)).rep K _ [x0] (.ref x0) [(.int d1)] := rs
      refine q_fld ?_
      refine c_val (val_var rfl) ?_
      refine c_val (val_var rfl) ?_
      refine m_fldP rs T_Report.cls (T_Report.na "hour" (by decide +kernel)) (by decide +kernel) rfl (by decide) rfl fun H16 c15 rs => ?_
      have r3 := Ty.chg r3 c15 dd0_3.symm
      have c0 := c0.join c15 (fun a h => .inl (h))
      have rs : (yPart C_Report dx0 (["ship", "hour"] : List Str)).rep K _ [x0] (.ref x0) [(.int d1), (.int d2)] := rs
      refine q_fld ?_
      refine w_cb ?_
      refine w_cons ?_
      refine w_call ?_
      refine w_args (va_cons (val_var rfl) va_nil) ?_
      obtain ⟨q17, hq17, hm⟩ := Mi.bnd hm
      refine Or.inl ⟨v3, F3, d3, q17, rfl, r3, hq17, fun v20 H19 F22 c18 r21 fr23  => ?_⟩
      have d24 : Dj [x0] F22 := Ty.fresh rs fr23
      have d25 : Dj F3 F22 := Ty.fresh r3 fr23
      have n26 : ∀ a ∈ F22, H0 a = none := fun a h => c0.dom a (fr23 a h)
      have rs := Ty.ex rs c18
      have r3 := Ty.ex r3 c18
      have c0 := c0.trans c18.none
      refine w_nil ?_
      refine w_tupleL r21 fun v27 H28 c29 r30 => ?_
      have rs := Ty.ex rs c29
      have r3 := Ty.ex r3 c29
      have r21 := Ty.ex r21 c29
      have c0 := c0.trans c29.none
      refine c_val (val_var rfl) ?_
      refine m_fldP rs T_Report.cls (T_Report.na "zone" (by decide +kernel)) (by decide +kernel) rfl (by decide) rfl fun H32 c31 rs => ?_
      have r3 := Ty.chg r3 c31 dd0_3.symm
      have r30 := Ty.fz r30 c31
      have c0 := c0.join c31 (fun a h => .inl (h))
      have rs : (yPart C_Report dx0 (["ship", "hour", "zone"] : List Str)).rep K _ [x0] (.ref x0) [(.int d1), (.int d2), v27] := rs
      refine q_fld ?_
      refine c_val (val_var rfl) ?_
      refine c_val (val_var rfl) ?_
      refine m_fldP rs T_Report.cls (T_Report.na "weight" (by decide +kernel)) (by decide +kernel) rfl (by decide) rfl fun H34 c33 rs => ?_
      have r3 := Ty.chg r3 c33 dd0_3.symm
      have r30 := Ty.fz r30 c33
      have c0 := c0.join c33 (fun a h => .inl (h))
      have rs : (yPart C_Report dx0 (["ship", "hour", "zone", "weight"] : List Str)).rep K _ [x0] (.ref x0) [(.int d1), (.int d2), v27, (.int d4)] := rs
      refine q_fld ?_
      refine c_val (val_var rfl) ?_
      refine c_val (val_var rfl) ?_
      refine m_fldE (ts := ty_Report) (d := (d1, d2, q17, d4, d5)) rs T_Report.cls (T_Report.na "inside" (by decide +kernel)) (by decide +kernel) rfl (by decide) rfl ⟨_, _, _, _, rfl, rfl, yInt_i, ⟨_, _, _, _, rfl, rfl, yInt_i, ⟨_, _, _, _, rfl, rfl, r30, ⟨_, _, _, _, rfl, rfl, yInt_i, ⟨_, rfl, yBool_i⟩⟩⟩⟩⟩ fun H36 c35 rs => ?_
      have r3 := Ty.chg r3 c35 dd0_3.symm
      have r30 := Ty.fz r30 c35
      have c0 := c0.join c35 (fun a h => .inl (h))
      refine w_next ?_
      obtain rfl := Option.some.inj hm
      exact hQ _ c0 rs
    ·
      obtain ⟨x0, dx0, d1, d2, v3, d3, d4, d5, r, rfl, rs, r3, hm, hQ⟩ := h
      refine ⟨_, pss_cons (ps_if (PW.pt (pw_or (pt_cmpR op_lt (pv 1) pe_int (nomark _)) (pw_or1 (pt_cmpR op_gt (pv 1) (pe_glob (v := .int 3) (by rfl) CN.c_LAST_SHIP.choose_spec ⟨_, rfl⟩) (nomark _))))) (pss_cons ps_never pss_nil) (pss_nil))
      (pss_cons (ps_if (PW.pt (pw_or (pt_cmpR op_lt (pv 2) pe_int (nomark _)) (pw_or1 (pt_cmpR op_gt (pv 2) (pe_glob (v := .int 24) (by rfl) CN.c_LAST_HOUR.choose_spec ⟨_, rfl⟩) (nomark _))))) (pss_cons ps_never pss_nil) (pss_nil))
      (pss_cons (ps_if (pt_not (pt_val (pe_cc C_is_zone hr (pa_cons (pv 3) (pa_cons (pe_glob (v := .int 12) (by rfl) CN.c_PLACES.choose_spec ⟨_, rfl⟩) pa_nil))))) (pss_cons ps_never pss_nil) (pss_nil))
      (pss_cons (ps_if (PW.pt (pw_or (pt_cmpR op_lt (pv 4) pe_int (nomark _)) (pw_or1 (pt_cmpR op_gt (pv 4) (pe_glob (v := .int 99) (by rfl) CN.c_MOST_WEIGHT.choose_spec ⟨_, rfl⟩) (nomark _))))) (pss_cons ps_never pss_nil) (pss_nil))
      (pss_cons (ps_fld (pv 0) (pv 1) rfl)
      (pss_cons (ps_fld (pv 0) (pv 2) rfl)
      (pss_cons (ps_fld (pv 0) (pe_callTy (cl_tuple (K := K)) (by rfl) B.tuple (by decide +kernel) (pa_cons (pe_cc C_ascending hr (pa_cons (pv 3) pa_nil)) pa_nil)) rfl)
      (pss_cons (ps_fld (pv 0) (pv 4) rfl)
      (pss_cons (ps_fld (pv 0) (pv 5) rfl)
      (pss_nil))))))))), ?_⟩
      have c0 : Chg ([x0]) H0 H0 := Chg.refl H0
      unfold Mi.m_Report_init_1 at hm
      refine q_if (ans_orB (ans_t (val_lt (val_var rfl) val_c)) (fun _ => (ans_t (val_gt (val_var rfl) val_c)))) (fun hb => ?_) (fun hb => ?_)
      ·
        replace hm := Mi.ifT hb hm
        cases hm
      replace hm := Mi.ifF hb hm
      refine w_fall ?_
      refine q_if (ans_orB (ans_t (val_lt (val_var rfl) val_c)) (fun _ => (ans_t (val_gt (val_var rfl) val_c)))) (fun hb => ?_) (fun hb => ?_)
      ·
        replace hm := Mi.ifT hb hm
        cases hm
      replace hm := Mi.ifF hb hm
      refine w_fall ?_
      refine q_ifS ?_
      refine w_not ?_
      refine w_B ?_
      refine w_call ?_
      refine w_args (va_cons (val_var rfl) (va_cons val_c va_nil)) ?_
      obtain ⟨q9, hq9, hm⟩ := Mi.bnd hm
      refine Or.inr (⟨v3, d3, (12 : Int), q9, rfl, r3, hq9, fun H11 c10  => ?_⟩)
      have rs := Ty.ex rs c10
      have r3 := Ty.fz r3 c10
      have c0 := c0.trans c10.none
      refine ⟨_, rfl, ?_⟩
      refine c_if (fun hb => ?_) (fun hb => ?_)
      ·
        replace hm := Mi.ifT hb hm
        cases hm
      replace hm := Mi.ifF hb hm
      refine w_fall ?_
      refine q_if (ans_orB (ans_t (val_lt (val_var rfl) val_c)) (fun _ => (ans_t (val_gt (val_var rfl) val_c)))) (fun hb => ?_) (fun hb => ?_)
      ·
        replace hm := Mi.ifT hb hm
        cases hm
      replace hm := Mi.ifF hb hm
      refine w_fall ?_
      refine q_fld ?_
      refine c_val (val_var rfl) ?_
      refine c_val (val_var rfl) ?_
      refine m_fldP rs T_Report.cls (T_Report.na "ship" (by decide +kernel)) (by decide +kernel) rfl (by decide) rfl fun H14 c13 rs => ?_
      have r3 := Ty.fz r3 c13
      have c0 := c0.join c13 (fun a h => .inl (h))
      have rs : (yPart C_Report dx0 (["ship"] : List Str)).rep K _ [x0] (.ref x0) [(.int d1)] := rs
      refine q_fld ?_
      refine c_val (val_var rfl) ?_
      refine c_val (val_var rfl) ?_
      refine m_fldP rs T_Report.cls (T_Report.na "hour" (by decide +kernel)) (by decide +kernel) rfl (by decide) rfl fun H16 c15 rs => ?_
      have r3 := Ty.fz r3 c15
      have c0 := c0.join c15 (fun a h => .inl (h))
      have rs : (yPart C_Report dx0 (["ship", "hour"] : List Str)).rep K _ [x0] (.ref x0) [(.int d1), (.int d2)] := rs
      refine q_fld ?_
      refine w_cb ?_
      refine w_cons ?_
      refine w_call ?_
      refine w_args (va_cons (val_var rfl) va_nil) ?_
      obtain ⟨q17, hq17, hm⟩ := Mi.bnd hm
      refine Or.inr (⟨v3, d3, q17, rfl, r3, hq17, fun v20 H19 F22 c18 r21 fr23  => ?_⟩)
      have d24 : Dj [x0] F22 := Ty.fresh rs fr23
      have n25 : ∀ a ∈ F22, H0 a = none := fun a h => c0.dom a (fr23 a h)
      have rs := Ty.ex rs c18
      have r3 := Ty.fz r3 c18
      have c0 := c0.trans c18.none
      refine w_nil ?_
      refine w_tupleL r21 fun v26 H27 c28 r29 => ?_
      have rs := Ty.ex rs c28
      have r3 := Ty.fz r3 c28
      have r21 := Ty.ex r21 c28
      have c0 := c0.trans c28.none
      refine c_val (val_var rfl) ?_
      refine m_fldP rs T_Report.cls (T_Report.na "zone" (by decide +kernel)) (by decide +kernel) rfl (by decide) rfl fun H31 c30 rs => ?_
      have r3 := Ty.fz r3 c30
      have r29 := Ty.fz r29 c30
      have c0 := c0.join c30 (fun a h => .inl (h))
      have rs : (yPart C_Report dx0 (["ship", "hour", "zone"] : List Str)).rep K _ [x0] (.ref x0) [(.int d1), (.int d2), v26] := rs
      refine q_fld ?_
      refine c_val (val_var rfl) ?_
      refine c_val (val_var rfl) ?_
      refine m_fldP rs T_Report.cls (T_Report.na "weight" (by decide +kernel)) (by decide +kernel) rfl (by decide) rfl fun H33 c32 rs => ?_
      have r3 := Ty.fz r3 c32
      have r29 := Ty.fz r29 c32
      have c0 := c0.join c32 (fun a h => .inl (h))
      have rs : (yPart C_Report dx0 (["ship", "hour", "zone", "weight"] : List Str)).rep K _ [x0] (.ref x0) [(.int d1), (.int d2), v26, (.int d4)] := rs
      refine q_fld ?_
      refine c_val (val_var rfl) ?_
      refine c_val (val_var rfl) ?_
      refine m_fldE (ts := ty_Report) (d := (d1, d2, q17, d4, d5)) rs T_Report.cls (T_Report.na "inside" (by decide +kernel)) (by decide +kernel) rfl (by decide) rfl ⟨_, _, _, _, rfl, rfl, yInt_i, ⟨_, _, _, _, rfl, rfl, yInt_i, ⟨_, _, _, _, rfl, rfl, r29, ⟨_, _, _, _, rfl, rfl, yInt_i, ⟨_, rfl, yBool_i⟩⟩⟩⟩⟩ fun H35 c34 rs => ?_
      have r3 := Ty.fz r3 c34
      have r29 := Ty.fz r29 c34
      have c0 := c0.join c34 (fun a h => .inl (h))
      refine w_next ?_
      obtain rfl := Option.some.inj hm
      exact hQ _ c0 rs
abbrev s_Report_allows : Stmt := inClass (topS 13) 1
abbrev N_Report_allows : List Str := ["self", "place"]
theorem sc_Report_allows : FnScope ["self", "place"] ["self", "place"] (defScope s_Report_allows) := ⟨rfl, rfl, rfl, by decide +kernel, rfl, by decide +kernel, by decide +kernel⟩
def sp_Report_allows (K : PySem.W.Frag) (C_Report : Addr) : Sp := fun vs H Q _ => ∃ (v0 : V) (d0 : (Int × Int × (List Int) × Int × Bool)) (d1 : Int) (r : Bool), vs = [v0, (.int d1)] ∧ (yObj C_Report nm_Report ty_Report).rep K H [] v0 d0 ∧ Mi.m_Report_allows d0 d1 = some r ∧ ∀ H', Chg ([]) H H' → Q (.bl r) H'
theorem ok_Report_allows (B : Bi mg) (CN : Cs K mg) {C_Report : Addr} (T_Report : Tx K mg C_Report "Report" nm_Report) (D : DfnM K C_Report "allows" "Report.allows" s_Report_allows) : CalM P w K mg C_Report "allows" ["self", "place"] 1 (sp_Report_allows K C_Report) := by
  obtain ⟨f, fd, F, g⟩ := D.ex
  refine ⟨f, fd, g, bindsF F (fun _ _ _ _ _ _ us hl => match us, hl with | [_, _], _ => rfl), fun base => F.ok sc_Report_allows (fun vs H Q E h => ?_) (fun cdv A outer s H0 vs Q E hr h => ?_)⟩
  · obtain ⟨v0, d0, d1, r, rfl, r0, hm, hQ⟩ := h; rfl
  ·
    obtain ⟨v0, d0, d1, r, rfl, r0, hm, hQ⟩ := h
    refine ⟨_, pss_cons (ps_ret (pe_cmpR op_eq (pe_cmpR (op_in_q (K := K)) (pv 1) (pe_fldk (K := K) (pv 0) (by rfl)) (by rfl)) (pe_fldk (K := K) (pv 0) (by rfl)) (nomark _))) pss_nil, ?_⟩
    have c0 : Chg ([] : List Addr) H0 H0 := Chg.refl H0
    unfold Mi.m_Report_allows at hm
    refine q_ret ?_
    obtain ⟨u3, r4, kx5, ku6⟩ := fld_obj (n := 2) (f := "zone") (atS (atS at0)) (by decide +kernel) rfl T_Report.cls (T_Report.na "zone" (by decide +kernel)) r0
    obtain ⟨u7, r8, kx9, ku10⟩ := fld_obj (n := 4) (f := "inside") (atS (atS (atS (atS at1)))) (by decide +kernel) rfl T_Report.cls (T_Report.na "inside" (by decide +kernel)) r0
    obtain ⟨_, rfl⟩ := r8
    refine c_val (val_eqB (val_inT r4 (val_var rfl) (ku6 (val_var rfl))) (ku10 (val_var rfl))) ?_
    obtain rfl := Option.some.inj hm
    exact hQ _ c0 
abbrev s_allowed_by_all : Stmt := topS 14
abbrev N_allowed_by_all : List Str := ["chart", "reports", "zone", "place", "report"]
theorem sc_allowed_by_all : FnScope ["chart", "reports", "zone", "place", "report"] ["chart", "reports"] (defScope s_allowed_by_all) := ⟨rfl, rfl, rfl, by decide +kernel, rfl, by decide +kernel, by decide +kernel⟩
def sp_allowed_by_all (K : PySem.W.Frag) (C_Report : Addr) (C_Chart : Addr) : Sp := fun vs H Q _ => ∃ (v0 : V) (d0 : (Int × (List Int) × (List (Int × Int)) × (List Int) × (List Int) × (List (List Int)))) (v1 : V) (F1 : List Addr) (d1 : (List (Int × Int × (List Int) × Int × Bool))) (r : (List Int)), vs = [v0, v1] ∧ (yObj C_Chart nm_Chart ty_Chart).rep K H [] v0 d0 ∧ (yLst (yObj C_Report nm_Report ty_Report)).rep K H F1 v1 d1 ∧ Mi.m_allowed_by_all d0 d1 = some r ∧ ∀ v H' F, Chg ([]) H H' → (yLst yInt).rep K H' F v r → (∀ a ∈ F, H a = none) → Q v H'
theorem ok_allowed_by_all (B : Bi mg) (CN : Cs K mg) (D : Dfn K mg "allowed_by_all" s_allowed_by_all) {C_Report : Addr} (T_Report : Tx K mg C_Report "Report" nm_Report) {C_Chart : Addr} (T_Chart : Tx K mg C_Chart "Chart" nm_Chart) (M_Report_allows : CalM P w K mg C_Report "allows" ["self", "place"] 1 (sp_Report_allows K C_Report)) : Cal P w K mg "allowed_by_all" ["chart", "reports"] 2 (sp_allowed_by_all K C_Report C_Chart) := by
  obtain ⟨f, fd, F, g⟩ := D.ex
  refine ⟨f, fd, g, F.kp, bindsF F (fun _ _ _ _ _ _ us hl => match us, hl with | [_, _], _ => rfl), fun base => F.ok sc_allowed_by_all (fun vs H Q E h => ?_) (fun cdv A outer s H0 vs Q E hr h => ?_)⟩
  · obtain ⟨v0, d0, v1, F1, d1, r, rfl, r0, r1, hm, hQ⟩ := h; rfl
  ·
    obtain ⟨v0, d0, v1, F1, d1, r, rfl, r0, r1, hm, hQ⟩ := h
    obtain ⟨fM_Report_allows, fdM_Report_allows, hM_Report_allows, bM_Report_allows, OM_Report_allows⟩ := M_Report_allows.ex
    refine ⟨_, pss_cons (ps_set (i := 2) sc_allowed_by_all.nd rfl (.inl rfl) (pe_lst pa_nil))
      (pss_cons (ps_for PassesOwn.never rfl (pi_range1 (by rfl) B.range (pa_cons (pe_fldk (K := K) (pv 0) (by rfl)) pa_nil)) (pg_name (i := 3) sc_allowed_by_all.nd rfl (.inr rfl)) (pss_cons (ps_if (pt_cmpR op_eq (pe_callB (cl_len (K := K)) (by rfl) B.len PySem.boot_len (pa_cons (pe_lc (own := [("report", 4)]) rfl sc_allowed_by_all.nd (pi_list (pv 1)) (blkOk_by (own := [("report", 4)]) (N := N_allowed_by_all) (sc := defScope s_allowed_by_all) (by decide +kernel)) (fun _ _ _ _ _ => (pg_name (i := 4) sc_allowed_by_all.nd rfl (.inl rfl))) (fun _ _ _ _ _ => (pts_one (pt_not (pt_val (pe_meth (pv 4) T_Report.cls hM_Report_allows (OM_Report_allows base) (hr.mono (by decide)) (fun s us _ hl => by rw [List.append_nil] at hl ⊢; exact bM_Report_allows s us hl) .nil pass0 (pa_cons (pv 3) pa_nil)))))) (fun _ _ _ _ _ => (pv 4))) pa_nil)) pe_int (nomark _)) (pss_cons (ps_expr (pe_bm PySem.F.plainAttrs_list PySem.F.slot_list_append PySem.F.type_list_append mt_append (pv 2) (pa_cons (pv 3) pa_nil)))
      (pss_nil)) (pss_nil))
      (pss_nil)))
      (pss_cons (ps_ret (pv 2)) pss_nil)), ?_⟩
    have c0 : Chg ([] : List Addr) H0 H0 := Chg.refl H0
    unfold Mi.m_allowed_by_all at hm
    refine q_asg ?_
    refine w_lst ?_
    refine w_args va_nil ?_
    refine e_lst (K := K) (τ := yInt) (by exact Nat.le_of_ble_eq_true rfl) .nil fun p3 H7 np6 c4 r5 => ?_
    have d8 : Dj F1 [p3] := Ty.nin r1 np6
    have n9 : ∀ a ∈ [p3], H0 a = none := one_fresh (c0.dom p3 np6)
    have r0 := Ty.fz r0 c4
    have r1 := Ty.ex r1 c4
    have c0 := c0.trans c4.none
    refine g_name (σ' := [some v0, some v1, some (.ref p3), none, none]) rfl ?_
    refine q_for ?_
    refine w_iRng1 ?_
    obtain ⟨u10, r11, kx12, ku13⟩ := fld_obj (n := 0) (f := "size") at0 (by decide +kernel) rfl T_Chart.cls (T_Chart.na "size" (by decide +kernel)) r0
    obtain ⟨_, rfl⟩ := r11
    refine w_args (va_cons (ku13 (val_var rfl)) va_nil) ?_
    obtain ⟨g14, hg14, hm⟩ := Mi.bnd hm
    obtain ⟨e15, he15, hm⟩ := Mi.bnd hm
    refine l_rng1 hg14 (fun i σ' H' => ∃ (s16 : (List Int)) (y17 : Option V), σ' = [some v0, some v1, some (.ref p3), y17, none] ∧ Chg ([] : List Addr) H0 H' ∧ (yObj C_Chart nm_Chart ty_Chart).rep K H' [] v0 d0 ∧ (yLst (yObj C_Report nm_Report ty_Report)).rep K H' F1 v1 d1 ∧ (yLst yInt).rep K H' [p3] (.ref p3) s16 ∧ Mi.forN (Mi.m_allowed_by_all_b1 d1) s16 (List.drop i g14) = some e15) ⟨([] : (List Int)), none, rfl, c0, r0, r1, r5, he15⟩ (fun i20 x19 σ' H' hx18 hp => ?_) (fun σ' H' hp => ?_)
    ·
      obtain ⟨s16, y17, rfl, c0, r0, r1, r5, hle15⟩ := hp
      obtain ⟨_, hbe15, hle15⟩ := Mi.forN_go hle15 hx18
      unfold Mi.m_allowed_by_all_b1 at hbe15
      refine g_name (σ' := [some v0, some v1, some (.ref p3), some (.int x19), none]) rfl ?_
      obtain ⟨s21, hs21, hbe15⟩ := Mi.bnd hbe15
      refine s_join (R := fun σ' H' => σ' = [some v0, some v1, some (.ref p3), some (.int x19), none] ∧ Chg ([] : List Addr) H0 H' ∧ (yObj C_Chart nm_Chart ty_Chart).rep K H' [] v0 d0 ∧ (yLst (yObj C_Report nm_Report ty_Report)).rep K H' F1 v1 d1 ∧ (yLst yInt).rep K H' [p3] (.ref p3) s21) (fun nx kx => ?_) (fun σ' H' hj => ?_)
      ·
        refine w_ifS ?_
        refine w_test ?_
        refine w_op ?_
        refine w_cb ?_
        refine w_cons ?_
        refine w_lc ?_
        refine w_iList ?_
        refine c_val (val_var rfl) ?_
        obtain ⟨e22, he22, hs21⟩ := Mi.bnd hs21
        refine kc_lst (K := K) (τ := (yObj C_Report nm_Report ty_Report)) r1 (fun D24 i H' => ∃ (s23 : (List (Int × Int × (List Int) × Int × Bool))), Chg ([] : List Addr) H0 H' ∧ (yObj C_Chart nm_Chart ty_Chart).rep K H' [] v0 d0 ∧ (yLst (yObj C_Report nm_Report ty_Report)).rep K H' F1 v1 d1 ∧ (yLst yInt).rep K H' [p3] (.ref p3) s16 ∧ (yLst (yObj C_Report nm_Report ty_Report)).rep K H' [D24] (.ref D24) s23 ∧ Dj F1 [D24] ∧ Dj [p3] [D24] ∧ (∀ a ∈ [D24], H0 a = none) ∧ Mi.forN (Mi.m_allowed_by_all_b2 x19) s23 (List.drop i d1) = some e22) (fun D24 H32 np31 c30 r25 => ⟨([] : (List (Int × Int × (List Int) × Int × Bool))), c0.trans c30.none, (Ty.fz r0 c30), (Ty.ex r1 c30), (Ty.ex r5 c30), r25, Ty.nin r1 np31, Ty.nin r5 np31, one_fresh (c0.dom D24 np31), he22⟩) (fun D24 i H' hp => by obtain ⟨s23, c0, r0, r1, r5, r25, d26, d27, n29, _⟩ := hp; exact r1) (fun D24 i35 x34 u37 H36 hx33 r38 hp => ?_) (fun D24 H' np31 hp => ?_)
        ·
          obtain ⟨s23, c0, r0, r1, r5, r25, d26, d27, n29, hle22⟩ := hp
          obtain ⟨_, hbe22, hle22⟩ := Mi.forN_go hle22 hx33
          unfold Mi.m_allowed_by_all_b2 at hbe22
          refine g_name (σ' := [some v0, some v1, some (.ref p3), some (.int x19), some u37]) rfl ?_
          refine ⟨rfl, ?_⟩
          refine w_not ?_
          refine w_B ?_
          refine w_meth ?_
          refine c_val (val_var rfl) ?_
          refine meth_obj r38 (by decide +kernel) ?_
          refine w_args (va_cons (val_var rfl) va_nil) ?_
          obtain ⟨q43, hq43, hbe22⟩ := Mi.bnd hbe22
          refine ⟨u37, x34, x19, q43, rfl, r38, hq43, fun H45 c44  => ?_⟩
          have r0 := Ty.fz r0 c44
          have r1 := Ty.ex r1 c44
          have r5 := Ty.ex r5 c44
          have r38 := Ty.fz r38 c44
          have r25 := Ty.ex r25 c44
          have c0 := c0.trans c44.none
          refine ⟨_, rfl, ?_⟩
          refine c_if (fun hb => ?_) (fun hb => ?_)
          ·
            replace hbe22 := Mi.ifT hb hbe22
            refine c_val (val_var rfl) ?_
            obtain ⟨x46, hx46, hbe22⟩ := Mi.bnd hbe22
            refine e_app r25 r38 hx46 fun H48 c47 r25 => ?_
            have r0 := Ty.fz r0 c47
            have r1 := Ty.chg r1 c47 d26
            have r5 := Ty.chg r5 c47 d27
            have r38 := Ty.fz r38 c47
            have c0 := c0.join c47 (fun a h => .inr (n29 a h))
            obtain rfl := Option.some.inj hbe22
            exact ⟨x46, c0, r0, r1, r5, r25, d26, d27, n29, hle22⟩
          ·
            replace hbe22 := Mi.ifF hb hbe22
            obtain rfl := Option.some.inj hbe22
            exact ⟨s23, c0, r0, r1, r5, r25, d26, d27, n29, hle22⟩
        obtain ⟨s23, c0, r0, r1, r5, r25, d26, d27, n29, hle22⟩ := hp
        obtain rfl := Mi.forN_end hle22
        refine w_nil ?_
        refine w_lenL r25 ?_
        refine c_val val_c ?_
        refine w_eqI ?_
        refine ⟨_, rfl, ?_⟩
        refine c_if (fun hb => ?_) (fun hb => ?_)
        ·
          replace hs21 := Mi.ifT hb hs21
          refine q_drop (w_bm (c_val (val_var rfl) ⟨tyv_lst r5, ?_⟩))
          refine w_args (va_cons (val_var rfl) va_nil) ?_
          obtain ⟨x49, hx49, hs21⟩ := Mi.bnd hs21
          refine m_app r5 yInt_i hx49 fun H51 c50 r5 => ?_
          have r0 := Ty.fz r0 c50
          have r1 := Ty.chg r1 c50 d8
          have c0 := c0.join c50 (fun a h => .inr (n9 a h))
          refine w_nextJ ?_
          obtain rfl := Option.some.inj hs21
          exact kx _ _ ⟨rfl, c0, r0, r1, r5⟩
        ·
          replace hs21 := Mi.ifF hb hs21
          refine w_nextJ ?_
          obtain rfl := Option.some.inj hs21
          exact kx _ _ ⟨rfl, c0, r0, r1, r5⟩
      obtain ⟨rfl, c0, r0, r1, r5⟩ := hj
      refine w_nextJ ?_
      obtain rfl := Option.some.inj hbe15
      exact ⟨_, (some (.int x19)), rfl, c0, r0, r1, r5, hle15⟩
    obtain ⟨s16, y17, rfl, c0, r0, r1, r5, hle15⟩ := hp
    obtain rfl := Mi.forN_end hle15
    refine q_ret ?_
    refine c_val (val_var rfl) ?_
    obtain rfl := Option.some.inj hm
    exact hQ _ _ _ c0 r5 n9 
abbrev s_corridor_of : Stmt := topS 15
abbrev N_corridor_of : List Str := ["chart", "horizon", "reports", "ship", "about", "corridor", "hour", "report"]
theorem sc_corridor_of : FnScope ["chart", "horizon", "reports", "ship", "about", "corridor", "hour", "report"] ["chart", "horizon", "reports", "ship"] (defScope s_corridor_of) := ⟨rfl, rfl, rfl, by decide +kernel, rfl, by decide +kernel, by decide +kernel⟩
def sp_corridor_of (K : PySem.W.Frag) (C_Report : Addr) (C_Chart : Addr) : Sp := fun vs H Q _ => (∃ (v0 : V) (d0 : (Int × (List Int) × (List (Int × Int)) × (List Int) × (List Int) × (List (List Int)))) (d1 : Int) (v2 : V) (F2 : List Addr) (d2 : (List (Int × Int × (List Int) × Int × Bool))) (d3 : Int) (r : (List (List Int))), vs = [v0, (.int d1), v2, (.int d3)] ∧ (yObj C_Chart nm_Chart ty_Chart).rep K H [] v0 d0 ∧ (yLst (yObj C_Report nm_Report ty_Report)).rep K H F2 v2 d2 ∧ Mi.m_corridor_of_0 d0 d1 d2 d3 = some r ∧ ∀ v H' F, Chg ([]) H H' → (yOwn (yLst yInt)).rep K H' F v r → (∀ a ∈ F, H a = none) → Q v H') ∨ (∃ (v0 : V) (d0 : (Int × (List Int) × (List (Int × Int)) × (List Int) × (List Int) × (List (List Int)))) (d1 : Int) (v2 : V) (d2 : (List (Int × Int × (List Int) × Int × Bool))) (d3 : Int) (r : (List (List Int))), vs = [v0, (.int d1), v2, (.int d3)] ∧ (yObj C_Chart nm_Chart ty_Chart).rep K H [] v0 d0 ∧ (yTupL (yObj C_Report nm_Report ty_Report)).rep K H [] v2 d2 ∧ Mi.m_corridor_of_1 d0 d1 d2 d3 = some r ∧ ∀ v H' F, Chg ([]) H H' → (yOwn (yLst yInt)).rep K H' F v r → (∀ a ∈ F, H a = none) → Q v H')
theorem ok_corridor_of (B : Bi mg) (CN : Cs K mg) (D : Dfn K mg "corridor_of" s_corridor_of) {C_Report : Addr} (T_Report : Tx K mg C_Report "Report" nm_Report) {C_Chart : Addr} (T_Chart : Tx K mg C_Chart "Chart" nm_Chart) (C_allowed_by_all : Cal P w K mg "allowed_by_all" ["chart", "reports"] 2 (sp_allowed_by_all K C_Report C_Chart)) : Cal P w K mg "corridor_of" ["chart", "horizon", "reports", "ship"] 3 (sp_corridor_of K C_Report C_Chart) := by
  obtain ⟨f, fd, F, g⟩ := D.ex
  refine ⟨f, fd, g, F.kp, bindsF F (fun _ _ _ _ _ _ us hl => match us, hl with | [_, _, _, _], _ => rfl), fun base => F.ok sc_corridor_of (fun vs H Q E h => ?_) (fun cdv A outer s H0 vs Q E hr h => ?_)⟩
  · rcases h with ⟨v0, d0, d1, v2, F2, d2, d3, r, rfl, r0, r2, hm, hQ⟩ | ⟨v0, d0, d1, v2, d2, d3, r, rfl, r0, r2, hm, hQ⟩
    all_goals rfl
  · rcases h with h | h
    ·
      obtain ⟨v0, d0, d1, v2, F2, d2, d3, r, rfl, r0, r2, hm, hQ⟩ := h
      refine ⟨_, pss_cons (ps_setLc (i := 4) (own := [("report", 7)]) rfl sc_corridor_of.nd rfl rfl (sw_true rfl rfl rfl (by decide +kernel)) (pi_list (pv 2)) (blkOk_by (own := [("report", 7)]) (N := N_corridor_of) (sc := defScope s_corridor_of) (by decide +kernel)) (fun _ _ _ _ _ => (pg_name (i := 7) sc_corridor_of.nd rfl (.inl rfl))) (fun _ _ _ _ _ => (pts_one (pt_cmpR op_eq (pe_fldk (K := K) (pv 7) (by rfl)) (pv 3) (nomark _)))) (fun _ _ _ _ _ => (pv 7)))
      (pss_cons (ps_set (i := 5) sc_corridor_of.nd rfl (.inl rfl) (pe_lst pa_nil))
      (pss_cons (ps_for PassesOwn.never rfl (pi_range1 (by rfl) B.range (pa_cons (pe_op op_add (pv 1) pe_int) pa_nil)) (pg_name (i := 6) sc_corridor_of.nd rfl (.inr rfl)) (pss_cons (ps_expr (pe_bm PySem.F.plainAttrs_list PySem.F.slot_list_append PySem.F.type_list_append mt_append (pv 5) (pa_cons (pe_cc C_allowed_by_all hr (pa_cons (pv 0) (pa_cons (pe_lc (own := [("report", 7)]) rfl sc_corridor_of.nd (pi_list (pv 4)) (blkOk_by (own := [("report", 7)]) (N := N_corridor_of) (sc := defScope s_corridor_of) (by decide +kernel)) (fun _ _ _ _ _ => (pg_name (i := 7) sc_corridor_of.nd rfl (.inl rfl))) (fun _ _ _ _ _ => (pts_one (pt_cmpR op_eq (pe_fldk (K := K) (pv 7) (by rfl)) (pv 6) (nomark _)))) (fun _ _ _ _ _ => (pv 7))) pa_nil))) pa_nil)))
      (pss_nil)))
      (pss_cons (ps_ret (pv 5)) pss_nil))), ?_⟩
      have c0 : Chg ([] : List Addr) H0 H0 := Chg.refl H0
      unfold Mi.m_corridor_of_0 at hm
      refine q_asg ?_
      refine w_lc ?_
      refine w_iList ?_
      refine c_val (val_var rfl) ?_
      obtain ⟨e5, he5, hm⟩ := Mi.bnd hm
      refine kc_lst (K := K) (τ := (yObj C_Report nm_Report ty_Report)) r2 (fun D7 i H' => ∃ (s6 : (List (Int × Int × (List Int) × Int × Bool))), Chg ([] : List Addr) H0 H' ∧ (yObj C_Chart nm_Chart ty_Chart).rep K H' [] v0 d0 ∧ (yLst (yObj C_Report nm_Report ty_Report)).rep K H' F2 v2 d2 ∧ (yLst (yObj C_Report nm_Report ty_Report)).rep K H' [D7] (.ref D7) s6 ∧ Dj F2 [D7] ∧ (∀ a ∈ [D7], H0 a = none) ∧ Mi.forN (Mi.m_corridor_of_0_b1 d3) s6 (List.drop i d2) = some e5) (fun D7 H14 np13 c12 r8 => ⟨([] : (List (Int × Int × (List Int) × Int × Bool))), c0.trans c12.none, (Ty.fz r0 c12), (Ty.ex r2 c12), r8, Ty.nin r2 np13, one_fresh (c0.dom D7 np13), he5⟩) (fun D7 i H' hp => by obtain ⟨s6, c0, r0, r2, r8, d9, n11, _⟩ := hp; exact r2) (fun D7 i17 x16 u19 H18 hx15 r20 hp => ?_) (fun D7 H' np13 hp => ?_)
      ·
        obtain ⟨s6, c0, r0, r2, r8, d9, n11, hle5⟩ := hp
        obtain ⟨_, hbe5, hle5⟩ := Mi.forN_go hle5 hx15
        unfold Mi.m_corridor_of_0_b1 at hbe5
        refine g_name (σ' := [some v0, some (.int d1), some v2, some (.int d3), none, none, none, some u19]) rfl ?_
        refine ⟨rfl, ?_⟩
        obtain ⟨u25, r26, kx27, ku28⟩ := fld_obj (n := 0) (f := "ship") at0 (by decide +kernel) rfl T_Report.cls (T_Report.na "ship" (by decide +kernel)) r20
        obtain ⟨_, rfl⟩ := r26
        refine c_ans (ans_t (val_eqI (ku28 (val_var rfl)) (val_var rfl))) ?_
        refine c_if (fun hb => ?_) (fun hb => ?_)
        ·
          replace hbe5 := Mi.ifT hb hbe5
          refine c_val (val_var rfl) ?_
          obtain ⟨x29, hx29, hbe5⟩ := Mi.bnd hbe5
          refine e_app r8 r20 hx29 fun H31 c30 r8 => ?_
          have r0 := Ty.fz r0 c30
          have r2 := Ty.chg r2 c30 d9
          have r20 := Ty.fz r20 c30
          have c0 := c0.join c30 (fun a h => .inr (n11 a h))
          obtain rfl := Option.some.inj hbe5
          exact ⟨x29, c0, r0, r2, r8, d9, n11, hle5⟩
        ·
          replace hbe5 := Mi.ifF hb hbe5
          obtain rfl := Option.some.inj hbe5
          exact ⟨s6, c0, r0, r2, r8, d9, n11, hle5⟩
      obtain ⟨s6, c0, r0, r2, r8, d9, n11, hle5⟩ := hp
      obtain rfl := Mi.forN_end hle5
      refine g_name (σ' := [some v0, some (.int d1), some v2, some (.int d3), some (.ref D7), none, none, none]) rfl ?_
      refine q_asg ?_
      refine w_lst ?_
      refine w_args va_nil ?_
      refine e_lst (K := K) (τ := yInt) (by exact Nat.le_of_ble_eq_true rfl) .nil fun p32 H36 np35 c33 r34 => ?_
      have d37 : Dj F2 [p32] := Ty.nin r2 np35
      have d38 : Dj [D7] [p32] := Ty.nin r8 np35
      have n39 : ∀ a ∈ [p32], H0 a = none := one_fresh (c0.dom p32 np35)
      have r0 := Ty.fz r0 c33
      have r2 := Ty.ex r2 c33
      have r8 := Ty.ex r8 c33
      have c0 := c0.trans c33.none
      have r34 := own_nil (τ := (yLst yInt)) r34
      refine g_name (σ' := [some v0, some (.int d1), some v2, some (.int d3), some (.ref D7), some (.ref p32), none, none]) rfl ?_
      refine q_for ?_
      refine w_iRng1 ?_
      refine w_args (va_cons (val_add (val_var rfl) val_c) va_nil) ?_
      obtain ⟨g40, hg40, hm⟩ := Mi.bnd hm
      obtain ⟨e41, he41, hm⟩ := Mi.bnd hm
      refine l_rng1 hg40 (fun i σ' H' => ∃ (s42 : (List (List Int))) (y47 : Option V) (v43 : V) (F45 : List Addr), σ' = [some v0, some (.int d1), some v2, some (.int d3), some (.ref D7), some v43, y47, none] ∧ Chg ([] : List Addr) H0 H' ∧ (yObj C_Chart nm_Chart ty_Chart).rep K H' [] v0 d0 ∧ (yLst (yObj C_Report nm_Report ty_Report)).rep K H' F2 v2 d2 ∧ (yLst (yObj C_Report nm_Report ty_Report)).rep K H' [D7] (.ref D7) s6 ∧ (yOwn (yLst yInt)).rep K H' F45 v43 s42 ∧ (∀ a ∈ F45, H0 a = none) ∧ Dj F45 F2 ∧ Dj F45 [D7] ∧ Mi.forN (Mi.m_corridor_of_0_b2 d0 s6) s42 (List.drop i g40) = some e41) ⟨([] : (List (List Int))), none, (.ref p32), [p32], rfl, c0, r0, r2, r8, r34, n39, d37.symm, d38.symm, he41⟩ (fun i52 x51 σ' H' hx50 hp => ?_) (fun σ' H' hp => ?_)
      ·
        obtain ⟨s42, y47, v43, F45, rfl, c0, r0, r2, r8, r44, n46, d48, d49, hle41⟩ := hp
        obtain ⟨_, hbe41, hle41⟩ := Mi.forN_go hle41 hx50
        unfold Mi.m_corridor_of_0_b2 at hbe41
        refine g_name (σ' := [some v0, some (.int d1), some v2, some (.int d3), some (.ref D7), some v43, some (.int x51), none]) rfl ?_
        refine q_drop (w_bm (c_val (val_var rfl) ⟨tyv_lsg (own_lsg r44), ?_⟩))
        refine w_cons ?_
        refine w_call ?_
        refine w_cons ?_
        refine c_val (val_var rfl) ?_
        refine w_cons ?_
        refine w_lc ?_
        refine w_iList ?_
        refine c_val (val_var rfl) ?_
        obtain ⟨e53, he53, hbe41⟩ := Mi.bnd hbe41
        refine kc_lst (K := K) (τ := (yObj C_Report nm_Report ty_Report)) r8 (fun D55 i H' => ∃ (s54 : (List (Int × Int × (List Int) × Int × Bool))), Chg ([] : List Addr) H0 H' ∧ (yObj C_Chart nm_Chart ty_Chart).rep K H' [] v0 d0 ∧ (yLst (yObj C_Report nm_Report ty_Report)).rep K H' F2 v2 d2 ∧ (yLst (yObj C_Report nm_Report ty_Report)).rep K H' [D7] (.ref D7) s6 ∧ (yOwn (yLst yInt)).rep K H' F45 v43 s42 ∧ (yLst (yObj C_Report nm_Report ty_Report)).rep K H' [D55] (.ref D55) s54 ∧ Dj F2 [D55] ∧ Dj [D7] [D55] ∧ Dj F45 [D55] ∧ (∀ a ∈ [D55], H0 a = none) ∧ Mi.forN (Mi.m_corridor_of_0_b3 x51) s54 (List.drop i s6) = some e53) (fun D55 H64 np63 c62 r56 => ⟨([] : (List (Int × Int × (List Int) × Int × Bool))), c0.trans c62.none, (Ty.fz r0 c62), (Ty.ex r2 c62), (Ty.ex r8 c62), (Ty.ex r44 c62), r56, Ty.nin r2 np63, Ty.nin r8 np63, Ty.nin r44 np63, one_fresh (c0.dom D55 np63), he53⟩) (fun D55 i H' hp => by obtain ⟨s54, c0, r0, r2, r8, r44, r56, d57, d58, d59, n61, _⟩ := hp; exact r8) (fun D55 i67 x66 u69 H68 hx65 r70 hp => ?_) (fun D55 H' np63 hp => ?_)
        ·
          obtain ⟨s54, c0, r0, r2, r8, r44, r56, d57, d58, d59, n61, hle53⟩ := hp
          obtain ⟨_, hbe53, hle53⟩ := Mi.forN_go hle53 hx65
          unfold Mi.m_corridor_of_0_b3 at hbe53
          refine g_name (σ' := [some v0, some (.int d1), some v2, some (.int d3), some (.ref D7), some v43, some (.int x51), some u69]) rfl ?_
          refine ⟨rfl, ?_⟩
          obtain ⟨u75, r76, kx77, ku78⟩ := fld_obj (n := 1) (f := "hour") (atS at0) (by decide +kernel) rfl T_Report.cls (T_Report.na "hour" (by decide +kernel)) r70
          obtain ⟨_, rfl⟩ := r76
          refine c_ans (ans_t (val_eqI (ku78 (val_var rfl)) (val_var rfl))) ?_
          refine c_if (fun hb => ?_) (fun hb => ?_)
          ·
            replace hbe53 := Mi.ifT hb hbe53
            refine c_val (val_var rfl) ?_
            obtain ⟨x79, hx79, hbe53⟩ := Mi.bnd hbe53
            refine e_app r56 r70 hx79 fun H81 c80 r56 => ?_
            have r0 := Ty.fz r0 c80
            have r2 := Ty.chg r2 c80 d57
            have r8 := Ty.chg r8 c80 d58
            have r44 := Ty.chg r44 c80 d59
            have r70 := Ty.fz r70 c80
            have c0 := c0.join c80 (fun a h => .inr (n61 a h))
            obtain rfl := Option.some.inj hbe53
            exact ⟨x79, c0, r0, r2, r8, r44, r56, d57, d58, d59, n61, hle53⟩
          ·
            replace hbe53 := Mi.ifF hb hbe53
            obtain rfl := Option.some.inj hbe53
            exact ⟨s54, c0, r0, r2, r8, r44, r56, d57, d58, d59, n61, hle53⟩
        obtain ⟨s54, c0, r0, r2, r8, r44, r56, d57, d58, d59, n61, hle53⟩ := hp
        obtain rfl := Mi.forN_end hle53
        refine w_nil ?_
        obtain ⟨q82, hq82, hbe41⟩ := Mi.bnd hbe41
        refine ⟨v0, d0, (.ref D55), [D55], s54, q82, rfl, r0, r56, hq82, fun v85 H84 F87 c83 r86 fr88  => ?_⟩
        have d89 : Dj F2 F87 := Ty.fresh r2 fr88
        have d90 : Dj [D7] F87 := Ty.fresh r8 fr88
        have d91 : Dj F45 F87 := Ty.fresh r44 fr88
        have n92 : ∀ a ∈ F87, H0 a = none := fun a h => c0.dom a (fr88 a h)
        have r0 := Ty.fz r0 c83
        have r2 := Ty.ex r2 c83
        have r8 := Ty.ex r8 c83
        have r44 := Ty.ex r44 c83
        have c0 := c0.trans c83.none
        refine w_nil ?_
        obtain ⟨x93, hx93, hbe41⟩ := Mi.bnd hbe41
        refine m_appO r44 r86 (d91) (lst_nd r86) hx93 fun H97 F98 c96 r44 sa99 sb100 => ?_
        have r0 := Ty.fz r0 c96
        have r2 := Ty.chg r2 c96 d48.symm
        have r8 := Ty.chg r8 c96 d49.symm
        have r86 := Ty.chg r86 c96 d91.symm
        have c0 := c0.join c96 (fun a h => .inr (n46 a h))
        have d101 : Dj F2 F98 := Dj.grow (d48.symm) (d89) sb100
        have d102 : Dj [D7] F98 := Dj.grow (d49.symm) (d90) sb100
        have n103 : ∀ a ∈ F98, H0 a = none := fresh_grow n46 n92 sb100
        refine w_nextJ ?_
        obtain rfl := Option.some.inj hbe41
        exact ⟨_, (some (.int x51)), v43, F98, rfl, c0, r0, r2, r8, r44, n103, d101.symm, d102.symm, hle41⟩
      obtain ⟨s42, y47, v43, F45, rfl, c0, r0, r2, r8, r44, n46, d48, d49, hle41⟩ := hp
      obtain rfl := Mi.forN_end hle41
      refine q_ret ?_
      refine c_val (val_var rfl) ?_
      obtain rfl := Option.some.inj hm
      exact hQ _ _ _ c0 r44 n46 
    ·
      obtain ⟨v0, d0, d1, v2, d2, d3, r, rfl, r0, r2, hm, hQ⟩ := h
      refine ⟨_, pss_cons (ps_setLc (i := 4) (own := [("report", 7)]) rfl sc_corridor_of.nd rfl rfl (sw_true rfl rfl rfl (by decide +kernel)) (pi_tup (pv 2)) (blkOk_by (own := [("report", 7)]) (N := N_corridor_of) (sc := defScope s_corridor_of) (by decide +kernel)) (fun _ _ _ _ _ => (pg_name (i := 7) sc_corridor_of.nd rfl (.inl rfl))) (fun _ _ _ _ _ => (pts_one (pt_cmpR op_eq (pe_fldk (K := K) (pv 7) (by rfl)) (pv 3) (nomark _)))) (fun _ _ _ _ _ => (pv 7)))
      (pss_cons (ps_set (i := 5) sc_corridor_of.nd rfl (.inl rfl) (pe_lst pa_nil))
      (pss_cons (ps_for PassesOwn.never rfl (pi_range1 (by rfl) B.range (pa_cons (pe_op op_add (pv 1) pe_int) pa_nil)) (pg_name (i := 6) sc_corridor_of.nd rfl (.inr rfl)) (pss_cons (ps_expr (pe_bm PySem.F.plainAttrs_list PySem.F.slot_list_append PySem.F.type_list_append mt_append (pv 5) (pa_cons (pe_cc C_allowed_by_all hr (pa_cons (pv 0) (pa_cons (pe_lc (own := [("report", 7)]) rfl sc_corridor_of.nd (pi_list (pv 4)) (blkOk_by (own := [("report", 7)]) (N := N_corridor_of) (sc := defScope s_corridor_of) (by decide +kernel)) (fun _ _ _ _ _ => (pg_name (i := 7) sc_corridor_of.nd rfl (.inl rfl))) (fun _ _ _ _ _ => (pts_one (pt_cmpR op_eq (pe_fldk (K := K) (pv 7) (by rfl)) (pv 6) (nomark _)))) (fun _ _ _ _ _ => (pv 7))) pa_nil))) pa_nil)))
      (pss_nil)))
      (pss_cons (ps_ret (pv 5)) pss_nil))), ?_⟩
      have c0 : Chg ([] : List Addr) H0 H0 := Chg.refl H0
      unfold Mi.m_corridor_of_1 at hm
      refine q_asg ?_
      refine w_lc ?_
      refine w_iTup ?_
      refine c_val (val_var rfl) ?_
      obtain ⟨e5, he5, hm⟩ := Mi.bnd hm
      refine kc_tup (K := K) (τ := (yObj C_Report nm_Report ty_Report)) r2 (fun D7 i H' => ∃ (s6 : (List (Int × Int × (List Int) × Int × Bool))), Chg ([] : List Addr) H0 H' ∧ (yObj C_Chart nm_Chart ty_Chart).rep K H' [] v0 d0 ∧ (yTupL (yObj C_Report nm_Report ty_Report)).rep K H' [] v2 d2 ∧ (yLst (yObj C_Report nm_Report ty_Report)).rep K H' [D7] (.ref D7) s6 ∧ (∀ a ∈ [D7], H0 a = none) ∧ Mi.forN (Mi.m_corridor_of_1_b1 d3) s6 (List.drop i d2) = some e5) (fun D7 H13 np12 c11 r8 => ⟨([] : (List (Int × Int × (List Int) × Int × Bool))), c0.trans c11.none, (Ty.fz r0 c11), (Ty.fz r2 c11), r8, one_fresh (c0.dom D7 np12), he5⟩) (fun D7 i H' hp => by obtain ⟨s6, c0, r0, r2, r8, n10, _⟩ := hp; exact r2) (fun D7 i16 x15 u18 H17 hx14 r19 hp => ?_) (fun D7 H' np12 hp => ?_)
      ·
        obtain ⟨s6, c0, r0, r2, r8, n10, hle5⟩ := hp
        obtain ⟨_, hbe5, hle5⟩ := Mi.forN_go hle5 hx14
        unfold Mi.m_corridor_of_1_b1 at hbe5
        refine g_name (σ' := [some v0, some (.int d1), some v2, some (.int d3), none, none, none, some u18]) rfl ?_
        refine ⟨rfl, ?_⟩
        obtain ⟨u24, r25, kx26, ku27⟩ := fld_obj (n := 0) (f := "ship") at0 (by decide +kernel) rfl T_Report.cls (T_Report.na "ship" (by decide +kernel)) r19
        obtain ⟨_, rfl⟩ := r25
        refine c_ans (ans_t (val_eqI (ku27 (val_var rfl)) (val_var rfl))) ?_
        refine c_if (fun hb => ?_) (fun hb => ?_)
        ·
          replace hbe5 := Mi.ifT hb hbe5
          refine c_val (val_var rfl) ?_
          obtain ⟨x28, hx28, hbe5⟩ := Mi.bnd hbe5
          refine e_app r8 r19 hx28 fun H30 c29 r8 => ?_
          have r0 := Ty.fz r0 c29
          have r2 := Ty.fz r2 c29
          have r19 := Ty.fz r19 c29
          have c0 := c0.join c29 (fun a h => .inr (n10 a h))
          obtain rfl := Option.some.inj hbe5
          exact ⟨x28, c0, r0, r2, r8, n10, hle5⟩
        ·
          replace hbe5 := Mi.ifF hb hbe5
          obtain rfl := Option.some.inj hbe5
          exact ⟨s6, c0, r0, r2, r8, n10, hle5⟩
      obtain ⟨s6, c0, r0, r2, r8, n10, hle5⟩ := hp
      obtain rfl := Mi.forN_end hle5
      refine g_name (σ' := [some v0, some (.int d1), some v2, some (.int d3), some (.ref D7), none, none, none]) rfl ?_
      refine q_asg ?_
      refine w_lst ?_
      refine w_args va_nil ?_
      refine e_lst (K := K) (τ := yInt) (by exact Nat.le_of_ble_eq_true rfl) .nil fun p31 H35 np34 c32 r33 => ?_
      have d36 : Dj [D7] [p31] := Ty.nin r8 np34
      have n37 : ∀ a ∈ [p31], H0 a = none := one_fresh (c0.dom p31 np34)
      have r0 := Ty.fz r0 c32
      have r2 := Ty.fz r2 c32
      have r8 := Ty.ex r8 c32
      have c0 := c0.trans c32.none
      have r33 := own_nil (τ := (yLst yInt)) r33
      refine g_name (σ' := [some v0, some (.int d1), some v2, some (.int d3), some (.ref D7), some (.ref p31), none, none]) rfl ?_
      refine q_for ?_
      refine w_iRng1 ?_
      refine w_args (va_cons (val_add (val_var rfl) val_c) va_nil) ?_
      obtain ⟨g38, hg38, hm⟩ := Mi.bnd hm
      obtain ⟨e39, he39, hm⟩ := Mi.bnd hm
      refine l_rng1 hg38 (fun i σ' H' => ∃ (s40 : (List (List Int))) (y45 : Option V) (v41 : V) (F43 : List Addr), σ' = [some v0, some (.int d1), some v2, some (.int d3), some (.ref D7), some v41, y45, none] ∧ Chg ([] : List Addr) H0 H' ∧ (yObj C_Chart nm_Chart ty_Chart).rep K H' [] v0 d0 ∧ (yTupL (yObj C_Report nm_Report ty_Report)).rep K H' [] v2 d2 ∧ (yLst (yObj C_Report nm_Report ty_Report)).rep K H' [D7] (.ref D7) s6 ∧ (yOwn (yLst yInt)).rep K H' F43 v41 s40 ∧ (∀ a ∈ F43, H0 a = none) ∧ Dj F43 [D7] ∧ Mi.forN (Mi.m_corridor_of_1_b2 d0 s6) s40 (List.drop i g38) = some e39) ⟨([] : (List (List Int))), none, (.ref p31), [p31], rfl, c0, r0, r2, r8, r33, n37, d36.symm, he39⟩ (fun i49 x48 σ' H' hx47 hp => ?_) (fun σ' H' hp => ?_)
      ·
        obtain ⟨s40, y45, v41, F43, rfl, c0, r0, r2, r8, r42, n44, d46, hle39⟩ := hp
        obtain ⟨_, hbe39, hle39⟩ := Mi.forN_go hle39 hx47
        unfold Mi.m_corridor_of_1_b2 at hbe39
        refine g_name (σ' := [some v0, some (.int d1), some v2, some (.int d3), some (.ref D7), some v41, some (.int x48), none]) rfl ?_
        refine q_drop (w_bm (c_val (val_var rfl) ⟨tyv_lsg (own_lsg r42), ?_⟩))
        refine w_cons ?_
        refine w_call ?_
        refine w_cons ?_
        refine c_val (val_var rfl) ?_
        refine w_cons ?_
        refine w_lc ?_
        refine w_iList ?_
        refine c_val (val_var rfl) ?_
        obtain ⟨e50, he50, hbe39⟩ := Mi.bnd hbe39
        refine kc_lst (K := K) (τ := (yObj C_Report nm_Report ty_Report)) r8 (fun D52 i H' => ∃ (s51 : (List (Int × Int × (List Int) × Int × Bool))), Chg ([] : List Addr) H0 H' ∧ (yObj C_Chart nm_Chart ty_Chart).rep K H' [] v0 d0 ∧ (yTupL (yObj C_Report nm_Report ty_Report)).rep K H' [] v2 d2 ∧ (yLst (yObj C_Report nm_Report ty_Report)).rep K H' [D7] (.ref D7) s6 ∧ (yOwn (yLst yInt)).rep K H' F43 v41 s40 ∧ (yLst (yObj C_Report nm_Report ty_Report)).rep K H' [D52] (.ref D52) s51 ∧ Dj [D7] [D52] ∧ Dj F43 [D52] ∧ (∀ a ∈ [D52], H0 a = none) ∧ Mi.forN (Mi.m_corridor_of_1_b3 x48) s51 (List.drop i s6) = some e50) (fun D52 H60 np59 c58 r53 => ⟨([] : (List (Int × Int × (List Int) × Int × Bool))), c0.trans c58.none, (Ty.fz r0 c58), (Ty.fz r2 c58), (Ty.ex r8 c58), (Ty.ex r42 c58), r53, Ty.nin r8 np59, Ty.nin r42 np59, one_fresh (c0.dom D52 np59), he50⟩) (fun D52 i H' hp => by obtain ⟨s51, c0, r0, r2, r8, r42, r53, d54, d55, n57, _⟩ := hp; exact r8) (fun D52 i63 x62 u65 H64 hx61 r66 hp => ?_) (fun D52 H' np59 hp => ?_)
        ·
          obtain ⟨s51, c0, r0, r2, r8, r42, r53, d54, d55, n57, hle50⟩ := hp
          obtain ⟨_, hbe50, hle50⟩ := Mi.forN_go hle50 hx61
          unfold Mi.m_corridor_of_1_b3 at hbe50
          refine g_name (σ' := [some v0, some (.int d1), some v2, some (.int d3), some (.ref D7), some v41, some (.int x48), some u65]) rfl ?_
          refine ⟨rfl, ?_⟩
          obtain ⟨u71, r72, kx73, ku74⟩ := fld_obj (n := 1) (f := "hour") (atS at0) (by decide +kernel) rfl T_Report.cls (T_Report.na "hour" (by decide +kernel)) r66
          obtain ⟨_, rfl⟩ := r72
          refine c_ans (ans_t (val_eqI (ku74 (val_var rfl)) (val_var rfl))) ?_
          refine c_if (fun hb => ?_) (fun hb => ?_)
          ·
            replace hbe50 := Mi.ifT hb hbe50
            refine c_val (val_var rfl) ?_
            obtain ⟨x75, hx75, hbe50⟩ := Mi.bnd hbe50
            refine e_app r53 r66 hx75 fun H77 c76 r53 => ?_
            have r0 := Ty.fz r0 c76
            have r2 := Ty.fz r2 c76
            have r8 := Ty.chg r8 c76 d54
            have r42 := Ty.chg r42 c76 d55
            have r66 := Ty.fz r66 c76
            have c0 := c0.join c76 (fun a h => .inr (n57 a h))
            obtain rfl := Option.some.inj hbe50
            exact ⟨x75, c0, r0, r2, r8, r42, r53, d54, d55, n57, hle50⟩
          ·
            replace hbe50 := Mi.ifF hb hbe50
            obtain rfl := Option.some.inj hbe50
            exact ⟨s51, c0, r0, r2, r8, r42, r53, d54, d55, n57, hle50⟩
        obtain ⟨s51, c0, r0, r2, r8, r42, r53, d54, d55, n57, hle50⟩ := hp
        obtain rfl := Mi.forN_end hle50
        refine w_nil ?_
        obtain ⟨q78, hq78, hbe39⟩ := Mi.bnd hbe39
        refine ⟨v0, d0, (.ref D52), [D52], s51, q78, rfl, r0, r53, hq78, fun v81 H80 F83 c79 r82 fr84  => ?_⟩
        have d85 : Dj [D7] F83 := Ty.fresh r8 fr84
        have d86 : Dj F43 F83 := Ty.fresh r42 fr84
        have n87 : ∀ a ∈ F83, H0 a = none := fun a h => c0.dom a (fr84 a h)
        have r0 := Ty.fz r0 c79
        have r2 := Ty.fz r2 c79
        have r8 := Ty.ex r8 c79
        have r42 := Ty.ex r42 c79
        have c0 := c0.trans c79.none
        refine w_nil ?_
        obtain ⟨x88, hx88, hbe39⟩ := Mi.bnd hbe39
        refine m_appO r42 r82 (d86) (lst_nd r82) hx88 fun H92 F93 c91 r42 sa94 sb95 => ?_
        have r0 := Ty.fz r0 c91
        have r2 := Ty.fz r2 c91
        have r8 := Ty.chg r8 c91 d46.symm
        have r82 := Ty.chg r82 c91 d86.symm
        have c0 := c0.join c91 (fun a h => .inr (n44 a h))
        have d96 : Dj [D7] F93 := Dj.grow (d46.symm) (d85) sb95
        have n97 : ∀ a ∈ F93, H0 a = none := fresh_grow n44 n87 sb95
        refine w_nextJ ?_
        obtain rfl := Option.some.inj hbe39
        exact ⟨_, (some (.int x48)), v41, F93, rfl, c0, r0, r2, r8, r42, n97, d96.symm, hle39⟩
      obtain ⟨s40, y45, v41, F43, rfl, c0, r0, r2, r8, r42, n44, d46, hle39⟩ := hp
      obtain rfl := Mi.forN_end hle39
      refine q_ret ?_
      refine c_val (val_var rfl) ?_
      obtain rfl := Option.some.inj hm
      exact hQ _ _ _ c0 r42 n44 
abbrev s_good_numbers : Stmt := topS 21
abbrev N_good_numbers : List Str := ["numbers", "most", "greatest", "number"]
theorem sc_good_numbers : FnScope ["numbers", "most", "greatest", "number"] ["numbers", "most", "greatest"] (defScope s_good_numbers) := ⟨rfl, rfl, rfl, by decide +kernel, rfl, by decide +kernel, by decide +kernel⟩
def sp_good_numbers (K : PySem.W.Frag) : Sp := fun vs H Q _ => ∃ (v0 : V) (F0 : List Addr) (d0 : (List Int)) (d1 : Int) (d2 : Int) (r : Bool), vs = [v0, (.int d1), (.int d2)] ∧ (yLst yInt).rep K H F0 v0 d0 ∧ Mi.m_good_numbers d0 d1 d2 = some r ∧ ∀ H', Chg ([]) H H' → Q (.bl r) H'
theorem ok_good_numbers (B : Bi mg) (CN : Cs K mg) (D : Dfn K mg "good_numbers" s_good_numbers)  : Cal P w K mg "good_numbers" ["numbers", "most", "greatest"] 1 (sp_good_numbers K) := by
  obtain ⟨f, fd, F, g⟩ := D.ex
  refine ⟨f, fd, g, F.kp, bindsF F (fun _ _ _ _ _ _ us hl => match us, hl with | [_, _, _], _ => rfl), fun base => F.ok sc_good_numbers (fun vs H Q E h => ?_) (fun cdv A outer s H0 vs Q E hr h => ?_)⟩
  · obtain ⟨v0, F0, d0, d1, d2, r, rfl, r0, hm, hQ⟩ := h; rfl
  ·
    obtain ⟨v0, F0, d0, d1, d2, r, rfl, r0, hm, hQ⟩ := h
    refine ⟨_, pss_cons (ps_if (PW.pt (pw_or (pt_cmpR op_lt (pe_callB (cl_len (K := K)) (by rfl) B.len PySem.boot_len (pa_cons (pv 0) pa_nil)) pe_int (nomark _)) (pw_or1 (pt_cmpR op_gt (pe_callB (cl_len (K := K)) (by rfl) B.len PySem.boot_len (pa_cons (pv 0) pa_nil)) (pv 1) (nomark _))))) (pss_cons (ps_ret pe_bl) pss_nil) (pss_nil))
      (pss_cons (ps_for PassesOwn.never rfl (pi_list (pv 0)) (pg_name (i := 3) sc_good_numbers.nd rfl (.inl rfl)) (pss_cons (ps_if (PW.pt (pw_or (pt_cmpR op_lt (pv 3) pe_int (nomark _)) (pw_or1 (pt_cmpR op_gt (pv 3) (pv 2) (nomark _))))) (pss_cons (ps_ret pe_bl) pss_nil) (pss_nil))
      (pss_nil)))
      (pss_cons (ps_ret pe_bl) pss_nil)), ?_⟩
    have c0 : Chg ([] : List Addr) H0 H0 := Chg.refl H0
    unfold Mi.m_good_numbers at hm
    refine q_if (ans_orB (ans_t (val_lt (val_lenL r0 (val_var rfl)) val_c)) (fun _ => (ans_t (val_gt (val_lenL r0 (val_var rfl)) (val_var rfl))))) (fun hb => ?_) (fun hb => ?_)
    ·
      replace hm := Mi.ifT hb hm
      refine q_ret ?_
      refine c_val val_c ?_
      obtain rfl := Option.some.inj hm
      exact hQ _ c0 
    replace hm := Mi.ifF hb hm
    refine w_fall ?_
    refine q_for ?_
    refine w_iList ?_
    refine c_val (val_var rfl) ?_
    obtain ⟨e5, he5, hm⟩ := Mi.bnd hm
    refine l_lst r0 (fun i σ' H' => ∃ (s6 : Unit) (y7 : Option V), σ' = [some v0, some (.int d1), some (.int d2), y7] ∧ Chg ([] : List Addr) H0 H' ∧ (yLst yInt).rep K H' F0 v0 d0 ∧ Mi.forR (Mi.m_good_numbers_b1 d2) s6 (List.drop i d0) = some e5) ⟨(), none, rfl, c0, r0, he5⟩ (fun i σ' H' hp => by obtain ⟨s6, y7, rfl, c0, r0, _⟩ := hp; exact r0) (fun i10 x9 u11 σ' H' hx8 r12 hp => ?_) (fun σ' H' hp => ?_)
    ·
      obtain ⟨s6, y7, rfl, c0, r0, hle5⟩ := hp
      obtain ⟨o13, hbe5, hore5⟩ := Mi.forR_go hle5 hx8
      unfold Mi.m_good_numbers_b1 at hbe5
      obtain ⟨_, rfl⟩ := r12
      refine g_name (σ' := [some v0, some (.int d1), some (.int d2), some (.int x9)]) rfl ?_
      refine q_if (ans_orB (ans_t (val_lt (val_var rfl) val_c)) (fun _ => (ans_t (val_gt (val_var rfl) (val_var rfl))))) (fun hb => ?_) (fun hb => ?_)
      ·
        replace hbe5 := Mi.ifT hb hbe5
        refine q_ret ?_
        refine c_val val_c ?_
        obtain rfl := Option.some.inj hbe5
        obtain rfl := Mi.or_inl hore5
        obtain rfl := Option.some.inj (Mi.orR_inl hm)
        exact hQ _ c0 
      replace hbe5 := Mi.ifF hb hbe5
      refine w_fall ?_
      refine w_nextJ ?_
      obtain rfl := Option.some.inj hbe5
      replace hore5 := Mi.or_inr hore5
      exact ⟨_, (some (.int x9)), rfl, c0, r0, hore5⟩
    obtain ⟨s6, y7, rfl, c0, r0, hle5⟩ := hp
    obtain rfl := Mi.forR_end hle5
    replace hm := Mi.orR_inr hm
    refine q_ret ?_
    refine c_val val_c ?_
    obtain rfl := Option.some.inj hm
    exact hQ _ c0 
abbrev s_good_depths : Stmt := topS 22
abbrev N_good_depths : List Str := ["depths"]
theorem sc_good_depths : FnScope ["depths"] ["depths"] (defScope s_good_depths) := ⟨rfl, rfl, rfl, by decide +kernel, rfl, by decide +kernel, by decide +kernel⟩
def sp_good_depths (K : PySem.W.Frag) : Sp := fun vs H Q _ => ∃ (v0 : V) (F0 : List Addr) (d0 : (List Int)) (r : Bool), vs = [v0] ∧ (yLst yInt).rep K H F0 v0 d0 ∧ Mi.m_good_depths d0 = some r ∧ ∀ H', Chg ([]) H H' → Q (.bl r) H'
theorem ok_good_depths (B : Bi mg) (CN : Cs K mg) (D : Dfn K mg "good_depths" s_good_depths) (C_good_numbers : Cal P w K mg "good_numbers" ["numbers", "most", "greatest"] 1 (sp_good_numbers K)) : Cal P w K mg "good_depths" ["depths"] 2 (sp_good_depths K) := by
  obtain ⟨f, fd, F, g⟩ := D.ex
  refine ⟨f, fd, g, F.kp, bindsF F (fun _ _ _ _ _ _ us hl => match us, hl with | [_], _ => rfl), fun base => F.ok sc_good_depths (fun vs H Q E h => ?_) (fun cdv A outer s H0 vs Q E hr h => ?_)⟩
  · obtain ⟨v0, F0, d0, r, rfl, r0, hm, hQ⟩ := h; rfl
  ·
    obtain ⟨v0, F0, d0, r, rfl, r0, hm, hQ⟩ := h
    refine ⟨_, pss_cons (ps_ret (pe_cc C_good_numbers hr (pa_cons (pv 0) (pa_cons (pe_glob (v := .int 12) (by rfl) CN.c_MOST_PLACES.choose_spec ⟨_, rfl⟩) (pa_cons (pe_glob (v := .int 99) (by rfl) CN.c_GREATEST_DEPTH.choose_spec ⟨_, rfl⟩) pa_nil))))) pss_nil, ?_⟩
    have c0 : Chg ([] : List Addr) H0 H0 := Chg.refl H0
    unfold Mi.m_good_depths at hm
    refine q_ret ?_
    refine w_call ?_
    refine w_args (va_cons (val_var rfl) (va_cons val_c (va_cons val_c va_nil))) ?_
    obtain ⟨q2, hq2, hm⟩ := Mi.bnd hm
    refine ⟨v0, F0, d0, (12 : Int), (99 : Int), q2, rfl, r0, hq2, fun H4 c3  => ?_⟩
    have r0 := Ty.ex r0 c3
    have c0 := c0.trans c3.none
    obtain rfl := Option.some.inj hm
    exact hQ _ c0 
abbrev s_good_lanes : Stmt := topS 23
abbrev N_good_lanes : List Str := ["lanes", "size", "known", "one", "other", "low", "high"]
theorem sc_good_lanes : FnScope ["lanes", "size", "known", "one", "other", "low", "high"] ["lanes", "size"] (defScope s_good_lanes) := ⟨rfl, rfl, rfl, by decide +kernel, rfl, by decide +kernel, by decide +kernel⟩
def sp_good_lanes (K : PySem.W.Frag) : Sp := fun vs H Q _ => ∃ (v0 : V) (F0 : List Addr) (d0 : (List (Int × Int))) (d1 : Int) (r : Bool), vs = [v0, (.int d1)] ∧ (yLst (yTup (sCons yInt (sOne yInt)))).rep K H F0 v0 d0 ∧ Mi.m_good_lanes d0 d1 = some r ∧ ∀ H', Chg ([]) H H' → Q (.bl r) H'
theorem ok_good_lanes (B : Bi mg) (CN : Cs K mg) (D : Dfn K mg "good_lanes" s_good_lanes)  : Cal P w K mg "good_lanes" ["lanes", "size"] 1 (sp_good_lanes K) := by
  obtain ⟨f, fd, F, g⟩ := D.ex
  refine ⟨f, fd, g, F.kp, bindsF F (fun _ _ _ _ _ _ us hl => match us, hl with | [_, _], _ => rfl), fun base => F.ok sc_good_lanes (fun vs H Q E h => ?_) (fun cdv A outer s H0 vs Q E hr h => ?_)⟩
  · obtain ⟨v0, F0, d0, d1, r, rfl, r0, hm, hQ⟩ := h; rfl
  ·
    obtain ⟨v0, F0, d0, d1, r, rfl, r0, hm, hQ⟩ := h
    refine ⟨_, pss_cons (ps_set (i := 2) sc_good_lanes.nd rfl (.inl rfl) (pe_callTy0 (cl_setP0 (P := P) (w := w)) (by rfl) B.set (by decide +kernel)))
      (pss_cons (ps_for PassesOwn.never rfl (pi_list (pv 0)) (pg_tupk (K := K) (n := 2) rfl (pgs_cons (pg_name (i := 3) sc_good_lanes.nd rfl (.inl rfl)) (pgs_cons (pg_name (i := 4) sc_good_lanes.nd rfl (.inl rfl)) pgs_nil))) (pss_cons (ps_set (i := 5) sc_good_lanes.nd rfl (.inl rfl) (pe_callB (cl_min2 rfl) (by rfl) B.min (by decide +kernel) (pa_cons (pv 3) (pa_cons (pv 4) pa_nil))))
      (pss_cons (ps_set (i := 6) sc_good_lanes.nd rfl (.inl rfl) (pe_callB (cl_max2 rfl) (by rfl) B.max (by decide +kernel) (pa_cons (pv 3) (pa_cons (pv 4) pa_nil))))
      (pss_cons (ps_if (PW.pt (pw_or (pt_cmpR op_lt (pv 5) pe_int (nomark _)) (pw_or (pt_cmpR op_ge (pv 6) (pv 1) (nomark _)) (pw_or (pt_cmpR op_eq (pv 5) (pv 6) (nomark _)) (pw_or1 (pt_cmpR (op_inP (K := K) (P := P) (w := w) hr.units) (pe_tup (pa_cons (pv 5) (pa_cons (pv 6) pa_nil))) (pv 2) (by rfl))))))) (pss_cons (ps_ret pe_bl) pss_nil) (pss_nil))
      (pss_cons (ps_expr (pe_saddP (K := K) (P := P) (w := w) hr.units (pv 2) (pa_cons (pe_tup (pa_cons (pv 5) (pa_cons (pv 6) pa_nil))) pa_nil)))
      (pss_nil))))))
      (pss_cons (ps_ret pe_bl) pss_nil)), ?_⟩
    have c0 : Chg ([] : List Addr) H0 H0 := Chg.refl H0
    unfold Mi.m_good_lanes at hm
    refine q_asg ?_
    refine w_cb ?_
    refine w_nil ?_
    refine w_setP0 (K := K) (P := P) (w := w) fun p3 H7 np6 c4 r5 => ?_
    have d8 : Dj F0 [p3] := Ty.nin r0 np6
    have n9 : ∀ a ∈ [p3], H0 a = none := one_fresh (c0.dom p3 np6)
    have r0 := Ty.ex r0 c4
    have c0 := c0.trans c4.none
    refine g_name (σ' := [some v0, some (.int d1), some (.ref p3), none, none, none, none]) rfl ?_
    refine q_for ?_
    refine w_iList ?_
    refine c_val (val_var rfl) ?_
    obtain ⟨e10, he10, hm⟩ := Mi.bnd hm
    refine l_lst r0 (fun i σ' H' => ∃ (s11 : (List (Int × Int))) (y12 : Option V) (y13 : Option V) (y14 : Option V) (y15 : Option V), σ' = [some v0, some (.int d1), some (.ref p3), y12, y13, y14, y15] ∧ Chg ([] : List Addr) H0 H' ∧ (yLst (yTup (sCons yInt (sOne yInt)))).rep K H' F0 v0 d0 ∧ (ySetP P w).rep K H' [p3] (.ref p3) s11 ∧ Mi.forR (Mi.m_good_lanes_b1 d1) s11 (List.drop i d0) = some e10) ⟨([] : List (Int × Int)), none, none, none, none, rfl, c0, r0, r5, he10⟩ (fun i σ' H' hp => by obtain ⟨s11, y12, y13, y14, y15, rfl, c0, r0, r5, _⟩ := hp; exact r0) (fun i18 x17 u19 σ' H' hx16 r20 hp => ?_) (fun σ' H' hp => ?_)
    ·
      obtain ⟨s11, y12, y13, y14, y15, rfl, c0, r0, r5, hle10⟩ := hp
      obtain ⟨o21, hbe10, hore10⟩ := Mi.forR_go hle10 hx16
      unfold Mi.m_good_lanes_b1 at hbe10
      refine g_tup2 r20 fun u22 u23 r24 r25 => ?_
      obtain ⟨_, rfl⟩ := r24
      obtain ⟨_, rfl⟩ := r25
      refine g_names (σ' := [some v0, some (.int d1), some (.ref p3), some (.int x17.1), some (.int x17.2), y14, y15]) rfl ?_
      obtain ⟨low26, hlow26, hbe10⟩ := Mi.letE hbe10
      refine q_setE (val_min2 (val_var rfl) (val_var rfl)) (congrArg V.int hlow26) (σ' := [some v0, some (.int d1), some (.ref p3), some (.int x17.1), some (.int x17.2), some (.int low26), y15]) rfl ?_
      obtain ⟨high27, hhigh27, hbe10⟩ := Mi.letE hbe10
      refine q_setE (val_max2 (val_var rfl) (val_var rfl)) (congrArg V.int hhigh27) (σ' := [some v0, some (.int d1), some (.ref p3), some (.int x17.1), some (.int x17.2), some (.int low26), some (.int high27)]) rfl ?_
      refine q_ifS ?_
      obtain ⟨b28, hb28, hbe10⟩ := Mi.bnd hbe10
      refine j_tt b28 (R := fun H' => Chg ([] : List Addr) H0 H' ∧ (yLst (yTup (sCons yInt (sOne yInt)))).rep K H' F0 v0 d0 ∧ (ySetP P w).rep K H' [p3] (.ref p3) s11) (fun Q' kq => ?_) (fun H' hj => ?_)
      ·
        refine w_or ?_
        refine c_ans (ans_t (val_lt (val_var rfl) val_c)) ?_
        refine c_if (fun hb => ?_) (fun hb => ?_)
        ·
          replace hb28 := Mi.ifT hb hb28
          obtain rfl := Option.some.inj hb28
          exact kq _ ⟨c0, r0, r5⟩
        replace hb28 := Mi.ifF hb hb28
        refine w_or ?_
        refine c_ans (ans_t (val_ge (val_var rfl) (val_var rfl))) ?_
        refine c_if (fun hb => ?_) (fun hb => ?_)
        ·
          replace hb28 := Mi.ifT hb hb28
          obtain rfl := Option.some.inj hb28
          exact kq _ ⟨c0, r0, r5⟩
        replace hb28 := Mi.ifF hb hb28
        refine w_or ?_
        refine c_ans (ans_t (val_eqI (val_var rfl) (val_var rfl))) ?_
        refine c_if (fun hb => ?_) (fun hb => ?_)
        ·
          replace hb28 := Mi.ifT hb hb28
          obtain rfl := Option.some.inj hb28
          exact kq _ ⟨c0, r0, r5⟩
        replace hb28 := Mi.ifF hb hb28
        refine w_test ?_
        refine w_op ?_
        refine w_tup ?_
        refine w_args (va_cons (val_var rfl) (va_cons (val_var rfl) va_nil)) ?_
        refine e_tup (K := K) (ty := (sCons yInt (sOne yInt))) (F := []) (d := (low26, high27)) (by exact Nat.le_of_ble_eq_true rfl) ⟨_, _, _, _, rfl, rfl, yInt_i, ⟨_, rfl, yInt_i⟩⟩ fun p29 H33 np32 c30 r31 => ?_
        have r0 := Ty.ex r0 c30
        have r5 := Ty.ex r5 c30
        have c0 := c0.trans c30.none
        refine c_val (val_var rfl) ?_
        refine w_inP r5 r31 ?_
        refine ⟨_, rfl, ?_⟩
        obtain rfl := Option.some.inj hb28
        exact kq _ ⟨c0, r0, r5⟩
      obtain ⟨c0, r0, r5⟩ := hj
      refine c_if (fun hb => ?_) (fun hb => ?_)
      ·
        replace hbe10 := Mi.ifT hb hbe10
        refine q_ret ?_
        refine c_val val_c ?_
        obtain rfl := Option.some.inj hbe10
        obtain rfl := Mi.or_inl hore10
        obtain rfl := Option.some.inj (Mi.orR_inl hm)
        exact hQ _ c0 
      replace hbe10 := Mi.ifF hb hbe10
      refine w_fall ?_
      refine q_drop (w_badd (c_val (val_var rfl) ⟨tyv_setP r5, ?_⟩))
      refine w_cons ?_
      refine w_tup ?_
      refine w_args (va_cons (val_var rfl) (va_cons (val_var rfl) va_nil)) ?_
      refine e_tup (K := K) (ty := (sCons yInt (sOne yInt))) (F := []) (d := (low26, high27)) (by exact Nat.le_of_ble_eq_true rfl) ⟨_, _, _, _, rfl, rfl, yInt_i, ⟨_, rfl, yInt_i⟩⟩ fun p34 H38 np37 c35 r36 => ?_
      have r0 := Ty.ex r0 c35
      have r5 := Ty.ex r5 c35
      have c0 := c0.trans c35.none
      refine w_nil ?_
      obtain ⟨x39, hx39, hbe10⟩ := Mi.bnd hbe10
      refine m_saddP r5 r36 hx39 fun H41 c40 r5 => ?_
      have r0 := Ty.chg r0 c40 d8
      have c0 := c0.join c40 (fun a h => .inr (n9 a h))
      refine w_nextJ ?_
      obtain rfl := Option.some.inj hbe10
      replace hore10 := Mi.or_inr hore10
      exact ⟨_, (some (.int x17.1)), (some (.int x17.2)), (some (.int low26)), (some (.int high27)), rfl, c0, r0, r5, hore10⟩
    obtain ⟨s11, y12, y13, y14, y15, rfl, c0, r0, r5, hle10⟩ := hp
    obtain rfl := Mi.forR_end hle10
    replace hm := Mi.orR_inr hm
    refine q_ret ?_
    refine c_val val_c ?_
    obtain rfl := Option.some.inj hm
    exact hQ _ c0 
abbrev s_good_tide : Stmt := topS 24
abbrev N_good_tide : List Str := ["tide"]
theorem sc_good_tide : FnScope ["tide"] ["tide"] (defScope s_good_tide) := ⟨rfl, rfl, rfl, by decide +kernel, rfl, by decide +kernel, by decide +kernel⟩
def sp_good_tide (K : PySem.W.Frag) : Sp := fun vs H Q _ => ∃ (v0 : V) (F0 : List Addr) (d0 : (List Int)) (r : Bool), vs = [v0] ∧ (yLst yInt).rep K H F0 v0 d0 ∧ Mi.m_good_tide d0 = some r ∧ ∀ H', Chg ([]) H H' → Q (.bl r) H'
theorem ok_good_tide (B : Bi mg) (CN : Cs K mg) (D : Dfn K mg "good_tide" s_good_tide) (C_good_numbers : Cal P w K mg "good_numbers" ["numbers", "most", "greatest"] 1 (sp_good_numbers K)) : Cal P w K mg "good_tide" ["tide"] 2 (sp_good_tide K) := by
  obtain ⟨f, fd, F, g⟩ := D.ex
  refine ⟨f, fd, g, F.kp, bindsF F (fun _ _ _ _ _ _ us hl => match us, hl with | [_], _ => rfl), fun base => F.ok sc_good_tide (fun vs H Q E h => ?_) (fun cdv A outer s H0 vs Q E hr h => ?_)⟩
  · obtain ⟨v0, F0, d0, r, rfl, r0, hm, hQ⟩ := h; rfl
  ·
    obtain ⟨v0, F0, d0, r, rfl, r0, hm, hQ⟩ := h
    refine ⟨_, pss_cons (ps_ret (pe_cc C_good_numbers hr (pa_cons (pv 0) (pa_cons (pe_glob (v := .int 12) (by rfl) CN.c_MOST_TIDE_NUMBERS.choose_spec ⟨_, rfl⟩) (pa_cons (pe_glob (v := .int 20) (by rfl) CN.c_GREATEST_TIDE.choose_spec ⟨_, rfl⟩) pa_nil))))) pss_nil, ?_⟩
    have c0 : Chg ([] : List Addr) H0 H0 := Chg.refl H0
    unfold Mi.m_good_tide at hm
    refine q_ret ?_
    refine w_call ?_
    refine w_args (va_cons (val_var rfl) (va_cons val_c (va_cons val_c va_nil))) ?_
    obtain ⟨q2, hq2, hm⟩ := Mi.bnd hm
    refine ⟨v0, F0, d0, (12 : Int), (20 : Int), q2, rfl, r0, hq2, fun H4 c3  => ?_⟩
    have r0 := Ty.ex r0 c3
    have c0 := c0.trans c3.none
    obtain rfl := Option.some.inj hm
    exact hQ _ c0 
abbrev s_good_harbours : Stmt := topS 25
abbrev N_good_harbours : List Str := ["harbours", "size"]
theorem sc_good_harbours : FnScope ["harbours", "size"] ["harbours", "size"] (defScope s_good_harbours) := ⟨rfl, rfl, rfl, by decide +kernel, rfl, by decide +kernel, by decide +kernel⟩
def sp_good_harbours (K : PySem.W.Frag) : Sp := fun vs H Q _ => ∃ (v0 : V) (F0 : List Addr) (d0 : (List Int)) (d1 : Int) (r : Bool), vs = [v0, (.int d1)] ∧ (yLst yInt).rep K H F0 v0 d0 ∧ Mi.m_good_harbours d0 d1 = some r ∧ ∀ H', Chg ([]) H H' → Q (.bl r) H'
theorem ok_good_harbours (B : Bi mg) (CN : Cs K mg) (D : Dfn K mg "good_harbours" s_good_harbours) (C_is_zone : Cal P w K mg "is_zone" ["zone", "size"] 1 (sp_is_zone K)) : Cal P w K mg "good_harbours" ["harbours", "size"] 2 (sp_good_harbours K) := by
  obtain ⟨f, fd, F, g⟩ := D.ex
  refine ⟨f, fd, g, F.kp, bindsF F (fun _ _ _ _ _ _ us hl => match us, hl with | [_, _], _ => rfl), fun base => F.ok sc_good_harbours (fun vs H Q E h => ?_) (fun cdv A outer s H0 vs Q E hr h => ?_)⟩
  · obtain ⟨v0, F0, d0, d1, r, rfl, r0, hm, hQ⟩ := h; rfl
  ·
    obtain ⟨v0, F0, d0, d1, r, rfl, r0, hm, hQ⟩ := h
    refine ⟨_, pss_cons (ps_ret (pe_cc C_is_zone hr (pa_cons (pv 0) (pa_cons (pv 1) pa_nil)))) pss_nil, ?_⟩
    have c0 : Chg ([] : List Addr) H0 H0 := Chg.refl H0
    unfold Mi.m_good_harbours at hm
    refine q_ret ?_
    refine w_call ?_
    refine w_args (va_cons (val_var rfl) (va_cons (val_var rfl) va_nil)) ?_
    obtain ⟨q3, hq3, hm⟩ := Mi.bnd hm
    refine Or.inl ⟨v0, F0, d0, d1, q3, rfl, r0, hq3, fun H5 c4  => ?_⟩
    have r0 := Ty.ex r0 c4
    have c0 := c0.trans c4.none
    obtain rfl := Option.some.inj hm
    exact hQ _ c0 
abbrev s_ordered_lanes : Stmt := topS 26
abbrev N_ordered_lanes : List Str := ["lanes", "one", "other"]
theorem sc_ordered_lanes : FnScope ["lanes", "one", "other"] ["lanes"] (defScope s_ordered_lanes) := ⟨rfl, rfl, rfl, by decide +kernel, rfl, by decide +kernel, by decide +kernel⟩
def sp_ordered_lanes (K : PySem.W.Frag) : Sp := fun vs H Q _ => ∃ (v0 : V) (F0 : List Addr) (d0 : (List (Int × Int))) (r : (List (Int × Int))), vs = [v0] ∧ (yLst (yTup (sCons yInt (sOne yInt)))).rep K H F0 v0 d0 ∧ Mi.m_ordered_lanes d0 = some r ∧ ∀ v H', Chg ([]) H H' → (yTupL (yTup (sCons yInt (sOne yInt)))).rep K H' [] v r → Q v H'
theorem ok_ordered_lanes (B : Bi mg) (CN : Cs K mg) (D : Dfn K mg "ordered_lanes" s_ordered_lanes)  : Cal P w K mg "ordered_lanes" ["lanes"] 1 (sp_ordered_lanes K) := by
  obtain ⟨f, fd, F, g⟩ := D.ex
  refine ⟨f, fd, g, F.kp, bindsF F (fun _ _ _ _ _ _ us hl => match us, hl with | [_], _ => rfl), fun base => F.ok sc_ordered_lanes (fun vs H Q E h => ?_) (fun cdv A outer s H0 vs Q E hr h => ?_)⟩
  · obtain ⟨v0, F0, d0, r, rfl, r0, hm, hQ⟩ := h; rfl
  ·
    obtain ⟨v0, F0, d0, r, rfl, r0, hm, hQ⟩ := h
    refine ⟨_, pss_cons (ps_ret (pe_callTy (cl_tuple (K := K)) (by rfl) B.tuple (by decide +kernel) (pa_cons (pe_callB (cl_sortP (K := K)) (by rfl) B.sorted (by decide +kernel) (pa_cons (pe_lc (own := [("one", 1), ("other", 2)]) rfl sc_ordered_lanes.nd (pi_list (pv 0)) (blkOk_by (own := [("one", 1), ("other", 2)]) (N := N_ordered_lanes) (sc := defScope s_ordered_lanes) (by decide +kernel)) (fun _ _ _ _ _ => (pg_tupk (K := K) (n := 2) rfl (pgs_cons (pg_name (i := 1) sc_ordered_lanes.nd rfl (.inl rfl)) (pgs_cons (pg_name (i := 2) sc_ordered_lanes.nd rfl (.inl rfl)) pgs_nil)))) (fun _ _ _ _ _ => pts_nil) (fun _ _ _ _ _ => (pe_tup (pa_cons (pe_callB (cl_min2 rfl) (by rfl) B.min (by decide +kernel) (pa_cons (pv 1) (pa_cons (pv 2) pa_nil))) (pa_cons (pe_callB (cl_max2 rfl) (by rfl) B.max (by decide +kernel) (pa_cons (pv 1) (pa_cons (pv 2) pa_nil))) pa_nil))))) pa_nil)) pa_nil))) pss_nil, ?_⟩
    have c0 : Chg ([] : List Addr) H0 H0 := Chg.refl H0
    unfold Mi.m_ordered_lanes at hm
    refine q_ret ?_
    refine w_cb ?_
    refine w_cons ?_
    refine w_cb ?_
    refine w_cons ?_
    refine w_lc ?_
    refine w_iList ?_
    refine c_val (val_var rfl) ?_
    obtain ⟨e2, he2, hm⟩ := Mi.bnd hm
    refine kc_lst (K := K) (τ := (yTup (sCons yInt (sOne yInt)))) r0 (fun D4 i H' => ∃ (s3 : (List (Int × Int))), Chg ([] : List Addr) H0 H' ∧ (yLst (yTup (sCons yInt (sOne yInt)))).rep K H' F0 v0 d0 ∧ (yLst (yTup (sCons yInt (sOne yInt)))).rep K H' [D4] (.ref D4) s3 ∧ Dj F0 [D4] ∧ (∀ a ∈ [D4], H0 a = none) ∧ Mi.forN (Mi.m_ordered_lanes_b1) s3 (List.drop i d0) = some e2) (fun D4 H11 np10 c9 r5 => ⟨([] : (List (Int × Int))), c0.trans c9.none, (Ty.ex r0 c9), r5, Ty.nin r0 np10, one_fresh (c0.dom D4 np10), he2⟩) (fun D4 i H' hp => by obtain ⟨s3, c0, r0, r5, d6, n8, _⟩ := hp; exact r0) (fun D4 i14 x13 u16 H15 hx12 r17 hp => ?_) (fun D4 H' np10 hp => ?_)
    ·
      obtain ⟨s3, c0, r0, r5, d6, n8, hle2⟩ := hp
      obtain ⟨_, hbe2, hle2⟩ := Mi.forN_go hle2 hx12
      unfold Mi.m_ordered_lanes_b1 at hbe2
      refine g_tup2 r17 fun u22 u23 r24 r25 => ?_
      obtain ⟨_, rfl⟩ := r24
      obtain ⟨_, rfl⟩ := r25
      refine ⟨rfl, ?_⟩
      refine st_eqT (σ' := [some v0, some (.int x13.1), some (.int x13.2)]) rfl ?_
      refine w_yes ?_
      refine iteT ?_
      refine w_tup ?_
      refine w_args (va_cons (val_min2 (val_var rfl) (val_var rfl)) (va_cons (val_max2 (val_var rfl) (val_var rfl)) va_nil)) ?_
      refine e_tup (K := K) (ty := (sCons yInt (sOne yInt))) (F := []) (d := ((min x13.1 x13.2), (max x13.1 x13.2))) (by exact Nat.le_of_ble_eq_true rfl) ⟨_, _, _, _, rfl, rfl, yInt_i, ⟨_, rfl, yInt_i⟩⟩ fun p26 H30 np29 c27 r28 => ?_
      have r0 := Ty.ex r0 c27
      have r5 := Ty.ex r5 c27
      have c0 := c0.trans c27.none
      obtain ⟨x31, hx31, hbe2⟩ := Mi.bnd hbe2
      refine e_app r5 r28 hx31 fun H33 c32 r5 => ?_
      have r0 := Ty.chg r0 c32 d6
      have c0 := c0.join c32 (fun a h => .inr (n8 a h))
      obtain rfl := Option.some.inj hbe2
      exact ⟨x31, c0, r0, r5, d6, n8, hle2⟩
    obtain ⟨s3, c0, r0, r5, d6, n8, hle2⟩ := hp
    obtain rfl := Mi.forN_end hle2
    refine w_nil ?_
    refine w_sortedP r5 fun p34 H38 np37 c35 r36 => ?_
    have d39 : Dj F0 [p34] := Ty.nin r0 np37
    have d40 : Dj [D4] [p34] := Ty.nin r5 np37
    have n41 : ∀ a ∈ [p34], H0 a = none := one_fresh (c0.dom p34 np37)
    have r0 := Ty.ex r0 c35
    have r5 := Ty.ex r5 c35
    have c0 := c0.trans c35.none
    refine w_nil ?_
    refine w_tupleL r36 fun v42 H43 c44 r45 => ?_
    have r0 := Ty.ex r0 c44
    have r36 := Ty.ex r36 c44
    have c0 := c0.trans c44.none
    obtain rfl := Option.some.inj hm
    exact hQ _ _ c0 r45 
abbrev s_joined_places : Stmt := topS 27
abbrev N_joined_places : List Str := ["size", "lanes", "rows", "low", "high", "place", "row"]
theorem sc_joined_places : FnScope ["size", "lanes", "rows", "low", "high", "place", "row"] ["size", "lanes"] (defScope s_joined_places) := ⟨rfl, rfl, rfl, by decide +kernel, rfl, by decide +kernel, by decide +kernel⟩
def sp_joined_places (K : PySem.W.Frag) : Sp := fun vs H Q _ => ∃ (d0 : Int) (v1 : V) (d1 : (List (Int × Int))) (r : (List (List Int))), vs = [(.int d0), v1] ∧ (yTupL (yTup (sCons yInt (sOne yInt)))).rep K H [] v1 d1 ∧ Mi.m_joined_places d0 d1 = some r ∧ ∀ v H', Chg ([]) H H' → (yTupL (yTupL yInt)).rep K H' [] v r → Q v H'
theorem ok_joined_places (B : Bi mg) (CN : Cs K mg) (D : Dfn K mg "joined_places" s_joined_places)  : Cal P w K mg "joined_places" ["size", "lanes"] 1 (sp_joined_places K) := by
  obtain ⟨f, fd, F, g⟩ := D.ex
  refine ⟨f, fd, g, F.kp, bindsF F (fun _ _ _ _ _ _ us hl => match us, hl with | [_, _], _ => rfl), fun base => F.ok sc_joined_places (fun vs H Q E h => ?_) (fun cdv A outer s H0 vs Q E hr h => ?_)⟩
  · obtain ⟨d0, v1, d1, r, rfl, r1, hm, hQ⟩ := h; rfl
  ·
    obtain ⟨d0, v1, d1, r, rfl, r1, hm, hQ⟩ := h
    refine ⟨_, pss_cons (ps_setLc (i := 2) (own := [("place", 5)]) rfl sc_joined_places.nd rfl rfl (sw_true rfl rfl rfl (by decide +kernel)) (pi_range1 (by rfl) B.range (pa_cons (pv 0) pa_nil)) (blkOk_by (own := [("place", 5)]) (N := N_joined_places) (sc := defScope s_joined_places) (by decide +kernel)) (fun _ _ _ _ _ => (pg_name (i := 5) sc_joined_places.nd rfl (.inl rfl))) (fun _ _ _ _ _ => pts_nil) (fun _ _ _ _ _ => (pe_lst pa_nil)))
      (pss_cons (ps_for PassesOwn.never rfl (pi_tup (pv 1)) (pg_tupk (K := K) (n := 2) rfl (pgs_cons (pg_name (i := 3) sc_joined_places.nd rfl (.inl rfl)) (pgs_cons (pg_name (i := 4) sc_joined_places.nd rfl (.inl rfl)) pgs_nil))) (pss_cons (ps_expr (pe_bm PySem.F.plainAttrs_list PySem.F.slot_list_append PySem.F.type_list_append mt_append (pe_ix (ix_l (K := K)) (pv 2) (pv 3) (fun _ _ => rfl)) (pa_cons (pv 4) pa_nil)))
      (pss_cons (ps_expr (pe_bm PySem.F.plainAttrs_list PySem.F.slot_list_append PySem.F.type_list_append mt_append (pe_ix (ix_l (K := K)) (pv 2) (pv 4) (fun _ _ => rfl)) (pa_cons (pv 3) pa_nil)))
      (pss_nil))))
      (pss_cons (ps_ret (pe_callTy (cl_tuple (K := K)) (by rfl) B.tuple (by decide +kernel) (pa_cons (pe_lc (own := [("row", 6)]) rfl sc_joined_places.nd (pi_list (pv 2)) (blkOk_by (own := [("row", 6)]) (N := N_joined_places) (sc := defScope s_joined_places) (by decide +kernel)) (fun _ _ _ _ _ => (pg_name (i := 6) sc_joined_places.nd rfl (.inl rfl))) (fun _ _ _ _ _ => pts_nil) (fun _ _ _ _ _ => (pe_callTy (cl_tuple (K := K)) (by rfl) B.tuple (by decide +kernel) (pa_cons (pv 6) pa_nil)))) pa_nil))) pss_nil)), ?_⟩
    have c0 : Chg ([] : List Addr) H0 H0 := Chg.refl H0
    unfold Mi.m_joined_places at hm
    refine q_asg ?_
    refine w_lc ?_
    refine w_iRng1 ?_
    refine w_args (va_cons (val_var rfl) va_nil) ?_
    obtain ⟨g3, hg3, hm⟩ := Mi.bnd hm
    obtain ⟨e4, he4, hm⟩ := Mi.bnd hm
    refine kc_rng1 (K := K) (τ := yInt) hg3 (fun D6 i H' => ∃ (s5 : (List (List Int))) (F8 : List Addr), Chg ([] : List Addr) H0 H' ∧ (yTupL (yTup (sCons yInt (sOne yInt)))).rep K H' [] v1 d1 ∧ (yOwn (yLst yInt)).rep K H' F8 (.ref D6) s5 ∧ (∀ a ∈ F8, H0 a = none) ∧ Mi.forN (Mi.m_joined_places_b1) s5 (List.drop i g3) = some e4) (fun D6 H13 np12 c11 r7 => ⟨([] : (List (List Int))), [D6], c0.trans c11.none, (Ty.fz r1 c11), own_nil r7, one_fresh (c0.dom D6 np12), he4⟩) (fun D6 i16 x15 H17 hx14 hp => ?_) (fun D6 H' np12 hp => ?_)
    ·
      obtain ⟨s5, F8, c0, r1, r7, n10, hle4⟩ := hp
      obtain ⟨_, hbe4, hle4⟩ := Mi.forN_go hle4 hx14
      unfold Mi.m_joined_places_b1 at hbe4
      refine g_name (σ' := [some (.int d0), some v1, none, none, none, some (.int x15), none]) rfl ?_
      refine ⟨rfl, ?_⟩
      refine w_yes ?_
      refine iteT ?_
      refine w_lst ?_
      refine w_args va_nil ?_
      refine e_lst (K := K) (τ := yInt) (by exact Nat.le_of_ble_eq_true rfl) .nil fun p24 H28 np27 c25 r26 => ?_
      have d29 : Dj F8 [p24] := Ty.nin r7 np27
      have n30 : ∀ a ∈ [p24], H0 a = none := one_fresh (c0.dom p24 np27)
      have r1 := Ty.fz r1 c25
      have r7 := Ty.ex r7 c25
      have c0 := c0.trans c25.none
      obtain ⟨x31, hx31, hbe4⟩ := Mi.bnd hbe4
      refine e_appO r7 r26 (d29) (lst_nd r26) hx31 fun H35 F36 c34 r7 sa37 sb38 => ?_
      have r1 := Ty.fz r1 c34
      have r26 := Ty.chg r26 c34 d29.symm
      have c0 := c0.join c34 (fun a h => .inr (n10 a h))
      have n39 : ∀ a ∈ F36, H0 a = none := fresh_grow n10 n30 sb38
      obtain rfl := Option.some.inj hbe4
      exact ⟨x31, F36, c0, r1, r7, n39, hle4⟩
    obtain ⟨s5, F8, c0, r1, r7, n10, hle4⟩ := hp
    obtain rfl := Mi.forN_end hle4
    refine g_name (σ' := [some (.int d0), some v1, some (.ref D6), none, none, none, none]) rfl ?_
    refine q_for ?_
    refine w_iTup ?_
    refine c_val (val_var rfl) ?_
    obtain ⟨e40, he40, hm⟩ := Mi.bnd hm
    refine l_tup r1 (fun i σ' H' => ∃ (s41 : (List (List Int))) (y42 : Option V) (y43 : Option V), σ' = [some (.int d0), some v1, some (.ref D6), y42, y43, none, none] ∧ Chg ([] : List Addr) H0 H' ∧ (yTupL (yTup (sCons yInt (sOne yInt)))).rep K H' [] v1 d1 ∧ (yOwn (yLst yInt)).rep K H' F8 (.ref D6) s41 ∧ Mi.forN (Mi.m_joined_places_b2) s41 (List.drop i d1) = some e40) ⟨s5, none, none, rfl, c0, r1, r7, he40⟩ (fun i σ' H' hp => by obtain ⟨s41, y42, y43, rfl, c0, r1, r7, _⟩ := hp; exact r1) (fun i46 x45 u47 σ' H' hx44 r48 hp => ?_) (fun σ' H' hp => ?_)
    ·
      obtain ⟨s41, y42, y43, rfl, c0, r1, r7, hle40⟩ := hp
      obtain ⟨_, hbe40, hle40⟩ := Mi.forN_go hle40 hx44
      unfold Mi.m_joined_places_b2 at hbe40
      refine g_tup2 r48 fun u49 u50 r51 r52 => ?_
      obtain ⟨_, rfl⟩ := r51
      obtain ⟨_, rfl⟩ := r52
      refine g_names (σ' := [some (.int d0), some v1, some (.ref D6), some (.int x45.1), some (.int x45.2), none, none]) rfl ?_
      obtain ⟨x53, hx53, hbe40⟩ := Mi.bnd hbe40
      obtain ⟨x54, hx54, hbe40⟩ := Mi.bnd hbe40
      obtain ⟨u55, tu56, kx57, ku58, ka59⟩ := itm_O r7 hx53
      refine q_drop (w_bm (c_val (ku58 (val_var rfl) (val_var rfl)) ⟨tu56, w_args (va_cons (val_var rfl) va_nil) ?_⟩))
      refine ka59 yInt_i hx54 fun H61 c60 r7 => ?_
      have r1 := Ty.fz r1 c60
      have c0 := c0.join c60 (fun a h => .inr (n10 a h))
      obtain ⟨x62, hx62, hbe40⟩ := Mi.bnd hbe40
      obtain ⟨x63, hx63, hbe40⟩ := Mi.bnd hbe40
      obtain ⟨u64, tu65, kx66, ku67, ka68⟩ := itm_O r7 hx62
      refine q_drop (w_bm (c_val (ku67 (val_var rfl) (val_var rfl)) ⟨tu65, w_args (va_cons (val_var rfl) va_nil) ?_⟩))
      refine ka68 yInt_i hx63 fun H70 c69 r7 => ?_
      have r1 := Ty.fz r1 c69
      have c0 := c0.join c69 (fun a h => .inr (n10 a h))
      refine w_nextJ ?_
      obtain rfl := Option.some.inj hbe40
      exact ⟨_, (some (.int x45.1)), (some (.int x45.2)), rfl, c0, r1, r7, hle40⟩
    obtain ⟨s41, y42, y43, rfl, c0, r1, r7, hle40⟩ := hp
    obtain rfl := Mi.forN_end hle40
    refine q_ret ?_
    refine w_cb ?_
    refine w_cons ?_
    refine w_lc ?_
    refine w_iList ?_
    refine c_val (val_var rfl) ?_
    obtain ⟨e71, he71, hm⟩ := Mi.bnd hm
    refine kc_lsg (K := K) (τ := (yTupL yInt)) (own_lsg r7) (fun D73 i H' => ∃ (s72 : (List (List Int))), Chg ([] : List Addr) H0 H' ∧ (yTupL (yTup (sCons yInt (sOne yInt)))).rep K H' [] v1 d1 ∧ (yOwn (yLst yInt)).rep K H' F8 (.ref D6) s41 ∧ (yLst (yTupL yInt)).rep K H' [D73] (.ref D73) s72 ∧ Dj F8 [D73] ∧ (∀ a ∈ [D73], H0 a = none) ∧ Mi.forN (Mi.m_joined_places_b3) s72 (List.drop i s41) = some e71) (fun D73 H80 np79 c78 r74 => ⟨([] : (List (List Int))), c0.trans c78.none, (Ty.fz r1 c78), (Ty.ex r7 c78), r74, Ty.nin r7 np79, one_fresh (c0.dom D73 np79), he71⟩) (fun D73 i H' hp => by obtain ⟨s72, c0, r1, r7, r74, d75, n77, _⟩ := hp; exact (own_lsg r7)) (fun D73 i83 x82 u85 F87 H84 hx81 r86 su88 hp => ?_) (fun D73 H' np79 hp => ?_)
    ·
      obtain ⟨s72, c0, r1, r7, r74, d75, n77, hle71⟩ := hp
      obtain ⟨_, hbe71, hle71⟩ := Mi.forN_go hle71 hx81
      unfold Mi.m_joined_places_b3 at hbe71
      have d91 : Dj F87 [D73] := Dj.sub (d75) su88
      have n92 : ∀ a ∈ F87, H0 a = none := fun a h => n10 a (su88 a h)
      refine g_name (σ' := [some (.int d0), some v1, some (.ref D6), y42, y43, none, some u85]) rfl ?_
      refine ⟨rfl, ?_⟩
      refine w_yes ?_
      refine iteT ?_
      refine w_cb ?_
      refine w_args (va_cons (val_var rfl) va_nil) ?_
      refine w_tupleL r86 fun v93 H94 c95 r96 => ?_
      have r1 := Ty.fz r1 c95
      have r7 := Ty.ex r7 c95
      have r86 := Ty.ex r86 c95
      have r74 := Ty.ex r74 c95
      have c0 := c0.trans c95.none
      obtain ⟨x97, hx97, hbe71⟩ := Mi.bnd hbe71
      refine e_app r74 r96 hx97 fun H99 c98 r74 => ?_
      have r1 := Ty.fz r1 c98
      have r7 := Ty.chg r7 c98 d75
      have r86 := Ty.chg r86 c98 d91
      have c0 := c0.join c98 (fun a h => .inr (n77 a h))
      obtain rfl := Option.some.inj hbe71
      exact ⟨x97, c0, r1, r7, r74, d75, n77, hle71⟩
    obtain ⟨s72, c0, r1, r7, r74, d75, n77, hle71⟩ := hp
    obtain rfl := Mi.forN_end hle71
    refine w_nil ?_
    refine w_tupleL r74 fun v100 H101 c102 r103 => ?_
    have r1 := Ty.fz r1 c102
    have r7 := Ty.ex r7 c102
    have r74 := Ty.ex r74 c102
    have c0 := c0.trans c102.none
    obtain rfl := Option.some.inj hm
    exact hQ _ _ c0 r103 
abbrev s_Chart_init : Stmt := inClass (topS 28) 0
abbrev N_Chart_init : List Str := ["self", "depths", "lanes", "tide", "harbours"]
theorem sc_Chart_init : FnScope ["self", "depths", "lanes", "tide", "harbours"] ["self", "depths", "lanes", "tide", "harbours"] (defScope s_Chart_init) := ⟨rfl, rfl, rfl, by decide +kernel, rfl, by decide +kernel, by decide +kernel⟩
def sp_Chart_init (K : PySem.W.Frag) (C_Chart : Addr) : Sp := fun vs H Q _ => ∃ (x0 dx0 : Addr) (v1 : V) (F1 : List Addr) (d1 : (List Int)) (v2 : V) (F2 : List Addr) (d2 : (List (Int × Int))) (v3 : V) (F3 : List Addr) (d3 : (List Int)) (v4 : V) (F4 : List Addr) (d4 : (List Int)) (r : (Int × (List Int) × (List (Int × Int)) × (List Int) × (List Int) × (List (List Int)))), vs = [.ref x0, v1, v2, v3, v4] ∧ (yPart C_Chart dx0 []).rep K H [x0] (.ref x0) [] ∧ (yLst yInt).rep K H F1 v1 d1 ∧ (yLst (yTup (sCons yInt (sOne yInt)))).rep K H F2 v2 d2 ∧ (yLst yInt).rep K H F3 v3 d3 ∧ (yLst yInt).rep K H F4 v4 d4 ∧ Dj [x0] F1 ∧ Dj [x0] F2 ∧ Dj [x0] F3 ∧ Dj [x0] F4 ∧ Mi.m_Chart_init d1 d2 d3 d4 = some r ∧ ∀ H', Chg [x0] H H' → (yObj C_Chart nm_Chart ty_Chart).rep K H' [] (.ref x0) r → Q .non H'
theorem ok_Chart_init (B : Bi mg) (CN : Cs K mg) {C_Chart : Addr} (T_Chart : Tx K mg C_Chart "Chart" nm_Chart) (C_good_depths : Cal P w K mg "good_depths" ["depths"] 2 (sp_good_depths K)) (C_good_lanes : Cal P w K mg "good_lanes" ["lanes", "size"] 1 (sp_good_lanes K)) (C_good_tide : Cal P w K mg "good_tide" ["tide"] 2 (sp_good_tide K)) (C_good_harbours : Cal P w K mg "good_harbours" ["harbours", "size"] 2 (sp_good_harbours K)) (C_ordered_lanes : Cal P w K mg "ordered_lanes" ["lanes"] 1 (sp_ordered_lanes K)) (C_joined_places : Cal P w K mg "joined_places" ["size", "lanes"] 1 (sp_joined_places K)) (D : DfnI K C_Chart "Chart.__init__" s_Chart_init (kw_Chart K) ) : CalI P w K mg C_Chart "Chart.__init__" s_Chart_init (kw_Chart K) ["self", "depths", "lanes", "tide", "harbours"] 3 (sp_Chart_init K C_Chart) := by
  obtain ⟨f, fd, F, g⟩ := D.ex
  refine ⟨f, fd, g, F, fun base => okD F sc_Chart_init (fun vs H Q E h => ?_) (fun cdv A outer s H0 vs Q E hr h => ?_)⟩
  · obtain ⟨x0, dx0, v1, F1, d1, v2, F2, d2, v3, F3, d3, v4, F4, d4, r, rfl, rs, r1, r2, r3, r4, dd0_1, dd0_2, dd0_3, dd0_4, hm, hQ⟩ := h; rfl
  ·
    obtain ⟨x0, dx0, v1, F1, d1, v2, F2, d2, v3, F3, d3, v4, F4, d4, r, rfl, rs, r1, r2, r3, r4, dd0_1, dd0_2, dd0_3, dd0_4, hm, hQ⟩ := h
    refine ⟨_, pss_cons (ps_if (pt_not (pt_val (pe_cc C_good_depths hr (pa_cons (pv 1) pa_nil)))) (pss_cons ps_never pss_nil) (pss_nil))
      (pss_cons (ps_if (pt_not (pt_val (pe_cc C_good_lanes hr (pa_cons (pv 2) (pa_cons (pe_callB (cl_len (K := K)) (by rfl) B.len PySem.boot_len (pa_cons (pv 1) pa_nil)) pa_nil))))) (pss_cons ps_never pss_nil) (pss_nil))
      (pss_cons (ps_if (pt_not (pt_val (pe_cc C_good_tide hr (pa_cons (pv 3) pa_nil)))) (pss_cons ps_never pss_nil) (pss_nil))
      (pss_cons (ps_if (pt_not (pt_val (pe_cc C_good_harbours hr (pa_cons (pv 4) (pa_cons (pe_callB (cl_len (K := K)) (by rfl) B.len PySem.boot_len (pa_cons (pv 1) pa_nil)) pa_nil))))) (pss_cons ps_never pss_nil) (pss_nil))
      (pss_cons (ps_fld (pv 0) (pe_callB (cl_len (K := K)) (by rfl) B.len PySem.boot_len (pa_cons (pv 1) pa_nil)) rfl)
      (pss_cons (ps_fld (pv 0) (pe_callTy (cl_tuple (K := K)) (by rfl) B.tuple (by decide +kernel) (pa_cons (pv 1) pa_nil)) rfl)
      (pss_cons (ps_fld (pv 0) (pe_cc C_ordered_lanes hr (pa_cons (pv 2) pa_nil)) rfl)
      (pss_cons (ps_fld (pv 0) (pe_callTy (cl_tuple (K := K)) (by rfl) B.tuple (by decide +kernel) (pa_cons (pv 3) pa_nil)) rfl)
      (pss_cons (ps_fld (pv 0) (pe_callTy (cl_tuple (K := K)) (by rfl) B.tuple (by decide +kernel) (pa_cons (pe_callB (cl_sortedL (K := K)) (by rfl) B.sorted (by decide +kernel) (pa_cons (pv 4) pa_nil)) pa_nil)) rfl)
      (pss_cons (ps_fld (pv 0) (pe_cc C_joined_places hr (pa_cons (pe_fldk (K := K) (pv 0) (by rfl)) (pa_cons (pe_fldk (K := K) (pv 0) (by rfl)) pa_nil))) rfl)
      (pss_nil)))))))))), ?_⟩
    have c0 : Chg ([x0]) H0 H0 := Chg.refl H0
    unfold Mi.m_Chart_init at hm
    refine q_ifS ?_
    refine w_not ?_
    refine w_B ?_
    refine w_call ?_
    refine w_args (va_cons (val_var rfl) va_nil) ?_
    obtain ⟨q6, hq6, hm⟩ := Mi.bnd hm
    refine ⟨v1, F1, d1, q6, rfl, r1, hq6, fun H8 c7  => ?_⟩
    have rs := Ty.ex rs c7
    have r1 := Ty.ex r1 c7
    have r2 := Ty.ex r2 c7
    have r3 := Ty.ex r3 c7
    have r4 := Ty.ex r4 c7
    have c0 := c0.trans c7.none
    refine ⟨_, rfl, ?_⟩
    refine c_if (fun hb => ?_) (fun hb => ?_)
    ·
      replace hm := Mi.ifT hb hm
      cases hm
    replace hm := Mi.ifF hb hm
    refine w_fall ?_
    refine q_ifS ?_
    refine w_not ?_
    refine w_B ?_
    refine w_call ?_
    refine w_args (va_cons (val_var rfl) (va_cons (val_lenL r1 (val_var rfl)) va_nil)) ?_
    obtain ⟨q9, hq9, hm⟩ := Mi.bnd hm
    refine ⟨v2, F2, d2, (d1.length : Int), q9, rfl, r2, hq9, fun H11 c10  => ?_⟩
    have rs := Ty.ex rs c10
    have r1 := Ty.ex r1 c10
    have r2 := Ty.ex r2 c10
    have r3 := Ty.ex r3 c10
    have r4 := Ty.ex r4 c10
    have c0 := c0.trans c10.none
    refine ⟨_, rfl, ?_⟩
    refine c_if (fun hb => ?_) (fun hb => ?_)
    ·
      replace hm := Mi.ifT hb hm
      cases hm
    replace hm := Mi.ifF hb hm
    refine w_fall ?_
    refine q_ifS ?_
    refine w_not ?_
    refine w_B ?_
    refine w_call ?_
    refine w_args (va_cons (val_var rfl) va_nil) ?_
    obtain ⟨q12, hq12, hm⟩ := Mi.bnd hm
    refine ⟨v3, F3, d3, q12, rfl, r3, hq12, fun H14 c13  => ?_⟩
    have rs := Ty.ex rs c13
    have r1 := Ty.ex r1 c13
    have r2 := Ty.ex r2 c13
    have r3 := Ty.ex r3 c13
    have r4 := Ty.ex r4 c13
    have c0 := c0.trans c13.none
    refine ⟨_, rfl, ?_⟩
    refine c_if (fun hb => ?_) (fun hb => ?_)
    ·
      replace hm := Mi.ifT hb hm
      cases hm
    replace hm := Mi.ifF hb hm
    refine w_fall ?_
    refine q_ifS ?_
    refine w_not ?_
    refine w_B ?_
    refine w_call ?_
    refine w_args (va_cons (val_var rfl) (va_cons (val_lenL r1 (val_var rfl)) va_nil)) ?_
    obtain ⟨q15, hq15, hm⟩ := Mi.bnd hm
    refine ⟨v4, F4, d4, (d1.length : Int), q15, rfl, r4, hq15, fun H17 c16  => ?_⟩
    have rs := Ty.ex rs c16
    have r1 := Ty.ex r1 c16
    have r2 := Ty.ex r2 c16
    have r3 := Ty.ex r3 c16
    have r4 := Ty.ex r4 c16
    have c0 := c0.trans c16.none
    refine ⟨_, rfl, ?_⟩
    refine c_if (fun hb => ?_) (fun hb => ?_)
    ·
      replace hm := Mi.ifT hb hm
      cases hm
    replace hm := Mi.ifF hb hm
    refine w_fall ?_
    refine q_fld ?_
    refine c_val (val_lenL r1 (val_var rfl)) ?_
    refine c_val (val_var rfl) ?_
    refine m_fldP rs T_Chart.cls (T_Chart.na "size" (by decide +kernel)) (by decide +kernel) rfl (by decide) rfl fun H19 c18 rs => ?_
    have r1 := Ty.chg r1 c18 dd0_1.symm
    have r2 := Ty.chg r2 c18 dd0_2.symm
    have r3 := Ty.chg r3 c18 dd0_3.symm
    have r4 := Ty.chg r4 c18 dd0_4.symm
    have c0 := c0.join c18 (fun a h => .inl (h))
    have rs : (yPart C_Chart dx0 (["size"] : List Str)).rep K _ [x0] (.ref x0) [(.int (d1.length : Int))] := rs
    refine q_fld ?_
    refine w_cb ?_
    refine w_args (va_cons (val_var rfl) va_nil) ?_
    refine w_tupleL r1 fun v20 H21 c22 r23 => ?_
    have rs := Ty.ex rs c22
    have r1 := Ty.ex r1 c22
    have r2 := Ty.ex r2 c22
    have r3 := Ty.ex r3 c22
    have r4 := Ty.ex r4 c22
    have c0 := c0.trans c22.none
    refine c_val (val_var rfl) ?_
    refine m_fldP rs T_Chart.cls (T_Chart.na "depths" (by decide +kernel)) (by decide +kernel) rfl (by decide) rfl fun H25 c24 rs => ?_
    have r1 := Ty.chg r1 c24 dd0_1.symm
    have r2 := Ty.chg r2 c24 dd0_2.symm
    have r3 := Ty.chg r3 c24 dd0_3.symm
    have r4 := Ty.chg r4 c24 dd0_4.symm
    have r23 := Ty.fz r23 c24
    have c0 := c0.join c24 (fun a h => .inl (h))
    have rs : (yPart C_Chart dx0 (["size", "depths"] : List Str)).rep K _ [x0] (.ref x0) [(.int (d1.length : Int)), v20] := rs
    refine q_fld ?_
    refine w_call ?_
    refine w_args (va_cons (val_var rfl) va_nil) ?_
    obtain ⟨q26, hq26, hm⟩ := Mi.bnd hm
    refine ⟨v2, F2, d2, q26, rfl, r2, hq26, fun v29 H28 c27 r30  => ?_⟩
    have rs := Ty.ex rs c27
    have r1 := Ty.ex r1 c27
    have r2 := Ty.ex r2 c27
    have r3 := Ty.ex r3 c27
    have r4 := Ty.ex r4 c27
    have r23 := Ty.fz r23 c27
    have c0 := c0.trans c27.none
    refine c_val (val_var rfl) ?_
    refine m_fldP rs T_Chart.cls (T_Chart.na "lanes" (by decide +kernel)) (by decide +kernel) rfl (by decide) rfl fun H32 c31 rs => ?_
    have r1 := Ty.chg r1 c31 dd0_1.symm
    have r2 := Ty.chg r2 c31 dd0_2.symm
    have r3 := Ty.chg r3 c31 dd0_3.symm
    have r4 := Ty.chg r4 c31 dd0_4.symm
    have r23 := Ty.fz r23 c31
    have r30 := Ty.fz r30 c31
    have c0 := c0.join c31 (fun a h => .inl (h))
    have rs : (yPart C_Chart dx0 (["size", "depths", "lanes"] : List Str)).rep K _ [x0] (.ref x0) [(.int (d1.length : Int)), v20, v29] := rs
    refine q_fld ?_
    refine w_cb ?_
    refine w_args (va_cons (val_var rfl) va_nil) ?_
    refine w_tupleL r3 fun v33 H34 c35 r36 => ?_
    have rs := Ty.ex rs c35
    have r1 := Ty.ex r1 c35
    have r2 := Ty.ex r2 c35
    have r3 := Ty.ex r3 c35
    have r4 := Ty.ex r4 c35
    have r23 := Ty.fz r23 c35
    have r30 := Ty.fz r30 c35
    have c0 := c0.trans c35.none
    refine c_val (val_var rfl) ?_
    refine m_fldP rs T_Chart.cls (T_Chart.na "tide" (by decide +kernel)) (by decide +kernel) rfl (by decide) rfl fun H38 c37 rs => ?_
    have r1 := Ty.chg r1 c37 dd0_1.symm
    have r2 := Ty.chg r2 c37 dd0_2.symm
    have r3 := Ty.chg r3 c37 dd0_3.symm
    have r4 := Ty.chg r4 c37 dd0_4.symm
    have r23 := Ty.fz r23 c37
    have r30 := Ty.fz r30 c37
    have r36 := Ty.fz r36 c37
    have c0 := c0.join c37 (fun a h => .inl (h))
    have rs : (yPart C_Chart dx0 (["size", "depths", "lanes", "tide"] : List Str)).rep K _ [x0] (.ref x0) [(.int (d1.length : Int)), v20, v29, v33] := rs
    refine q_fld ?_
    refine w_cb ?_
    refine w_cons ?_
    refine w_cb ?_
    refine w_args (va_cons (val_var rfl) va_nil) ?_
    refine w_sortedL r4 fun p39 H43 np42 c40 r41 => ?_
    have d44 : Dj [x0] [p39] := Ty.nin rs np42
    have d45 : Dj F1 [p39] := Ty.nin r1 np42
    have d46 : Dj F2 [p39] := Ty.nin r2 np42
    have d47 : Dj F3 [p39] := Ty.nin r3 np42
    have d48 : Dj F4 [p39] := Ty.nin r4 np42
    have n49 : ∀ a ∈ [p39], H0 a = none := one_fresh (c0.dom p39 np42)
    have rs := Ty.ex rs c40
    have r1 := Ty.ex r1 c40
    have r2 := Ty.ex r2 c40
    have r3 := Ty.ex r3 c40
    have r4 := Ty.ex r4 c40
    have r23 := Ty.fz r23 c40
    have r30 := Ty.fz r30 c40
    have r36 := Ty.fz r36 c40
    have c0 := c0.trans c40.none
    refine w_nil ?_
    refine w_tupleL r41 fun v50 H51 c52 r53 => ?_
    have rs := Ty.ex rs c52
    have r1 := Ty.ex r1 c52
    have r2 := Ty.ex r2 c52
    have r3 := Ty.ex r3 c52
    have r4 := Ty.ex r4 c52
    have r23 := Ty.fz r23 c52
    have r30 := Ty.fz r30 c52
    have r36 := Ty.fz r36 c52
    have r41 := Ty.ex r41 c52
    have c0 := c0.trans c52.none
    refine c_val (val_var rfl) ?_
    refine m_fldP rs T_Chart.cls (T_Chart.na "harbours" (by decide +kernel)) (by decide +kernel) rfl (by decide) rfl fun H55 c54 rs => ?_
    have r1 := Ty.chg r1 c54 dd0_1.symm
    have r2 := Ty.chg r2 c54 dd0_2.symm
    have r3 := Ty.chg r3 c54 dd0_3.symm
    have r4 := Ty.chg r4 c54 dd0_4.symm
    have r23 := Ty.fz r23 c54
    have r30 := Ty.fz r30 c54
    have r36 := Ty.fz r36 c54
    have r53 := Ty.fz r53 c54
    have c0 := c0.join c54 (fun a h => .inl (h))
    have rs : (yPart C_Chart dx0 (["size", "depths", "lanes", "tide", "harbours"] : List Str)).rep K _ [x0] (.ref x0) [(.int (d1.length : Int)), v20, v29, v33, v50] := rs
    refine q_fld ?_
    refine w_call ?_
    refine w_args (va_cons (fld_part (n := 0) (by decide +kernel) rfl rfl T_Chart.cls (T_Chart.na "size" (by decide +kernel)) rs (val_var rfl)) (va_cons (fld_part (n := 2) (by decide +kernel) rfl rfl T_Chart.cls (T_Chart.na "lanes" (by decide +kernel)) rs (val_var rfl)) va_nil)) ?_
    obtain ⟨q56, hq56, hm⟩ := Mi.bnd hm
    refine ⟨(d1.length : Int), v29, q26, q56, rfl, r30, hq56, fun v59 H58 c57 r60  => ?_⟩
    have rs := Ty.ex rs c57
    have r1 := Ty.ex r1 c57
    have r2 := Ty.ex r2 c57
    have r3 := Ty.ex r3 c57
    have r4 := Ty.ex r4 c57
    have r23 := Ty.fz r23 c57
    have r30 := Ty.fz r30 c57
    have r36 := Ty.fz r36 c57
    have r53 := Ty.fz r53 c57
    have c0 := c0.trans c57.none
    refine c_val (val_var rfl) ?_
    refine m_fldE (ts := ty_Chart) (d := ((d1.length : Int), d1, q26, d3, (Mi.sortI d4), q56)) rs T_Chart.cls (T_Chart.na "joined" (by decide +kernel)) (by decide +kernel) rfl (by decide) rfl ⟨_, _, _, _, rfl, rfl, yInt_i, ⟨_, _, _, _, rfl, rfl, r23, ⟨_, _, _, _, rfl, rfl, r30, ⟨_, _, _, _, rfl, rfl, r36, ⟨_, _, _, _, rfl, rfl, r53, ⟨_, rfl, r60⟩⟩⟩⟩⟩⟩ fun H62 c61 rs => ?_
    have r1 := Ty.chg r1 c61 dd0_1.symm
    have r2 := Ty.chg r2 c61 dd0_2.symm
    have r3 := Ty.chg r3 c61 dd0_3.symm
    have r4 := Ty.chg r4 c61 dd0_4.symm
    have r23 := Ty.fz r23 c61
    have r30 := Ty.fz r30 c61
    have r36 := Ty.fz r36 c61
    have r53 := Ty.fz r53 c61
    have r60 := Ty.fz r60 c61
    have c0 := c0.join c61 (fun a h => .inl (h))
    refine w_next ?_
    obtain rfl := Option.some.inj hm
    exact hQ _ c0 rs
abbrev s_Chart_neighbours : Stmt := inClass (topS 28) 3
abbrev N_Chart_neighbours : List Str := ["self", "place"]
theorem sc_Chart_neighbours : FnScope ["self", "place"] ["self", "place"] (defScope s_Chart_neighbours) := ⟨rfl, rfl, rfl, by decide +kernel, rfl, by decide +kernel, by decide +kernel⟩
def sp_Chart_neighbours (K : PySem.W.Frag) (C_Chart : Addr) : Sp := fun vs H Q _ => ∃ (v0 : V) (d0 : (Int × (List Int) × (List (Int × Int)) × (List Int) × (List Int) × (List (List Int)))) (d1 : Int) (r : (List Int)), vs = [v0, (.int d1)] ∧ (yObj C_Chart nm_Chart ty_Chart).rep K H [] v0 d0 ∧ Mi.m_Chart_neighbours d0 d1 = some r ∧ ∀ v H' F, Chg ([]) H H' → (yLst yInt).rep K H' F v r → (∀ a ∈ F, H a = none) → Q v H'
theorem ok_Chart_neighbours (B : Bi mg) (CN : Cs K mg) {C_Chart : Addr} (T_Chart : Tx K mg C_Chart "Chart" nm_Chart) (D : DfnM K C_Chart "neighbours" "Chart.neighbours" s_Chart_neighbours) : CalM P w K mg C_Chart "neighbours" ["self", "place"] 1 (sp_Chart_neighbours K C_Chart) := by
  obtain ⟨f, fd, F, g⟩ := D.ex
  refine ⟨f, fd, g, bindsF F (fun _ _ _ _ _ _ us hl => match us, hl with | [_, _], _ => rfl), fun base => F.ok sc_Chart_neighbours (fun vs H Q E h => ?_) (fun cdv A outer s H0 vs Q E hr h => ?_)⟩
  · obtain ⟨v0, d0, d1, r, rfl, r0, hm, hQ⟩ := h; rfl
  ·
    obtain ⟨v0, d0, d1, r, rfl, r0, hm, hQ⟩ := h
    refine ⟨_, pss_cons (ps_ret (pe_callTy (cl_list (K := K)) (by rfl) B.list (by decide +kernel) (pa_cons (pe_ix (ix_t (K := K)) (pe_fldk (K := K) (pv 0) (by rfl)) (pv 1) (fun _ _ => rfl)) pa_nil))) pss_nil, ?_⟩
    have c0 : Chg ([] : List Addr) H0 H0 := Chg.refl H0
    unfold Mi.m_Chart_neighbours at hm
    refine q_ret ?_
    refine w_cb ?_
    obtain ⟨u3, r4, kx5, ku6⟩ := fld_obj (n := 5) (f := "joined") (atS (atS (atS (atS (atS at1))))) (by decide +kernel) rfl T_Chart.cls (T_Chart.na "joined" (by decide +kernel)) r0
    obtain ⟨x7, hx7, hm⟩ := Mi.bnd hm
    obtain ⟨u8, r9, ku10⟩ := itm_T r4 hx7
    refine w_args (va_cons (ku10 (ku6 (val_var rfl)) (val_var rfl)) va_nil) ?_
    refine w_listT r9 fun p11 H15 np14 c12 r13 => ?_
    have n16 : ∀ a ∈ [p11], H0 a = none := one_fresh (c0.dom p11 np14)
    have r0 := Ty.fz r0 c12
    have r9 := Ty.fz r9 c12
    have c0 := c0.trans c12.none
    obtain rfl := Option.some.inj hm
    exact hQ _ _ _ c0 r13 n16 
abbrev s_l_hand : Stmt := topS 30
abbrev N_l_hand : List Str := ["_law_script", "_law_k", "_law_cell", "_law_rest"]
theorem sc_l_hand : FnScope ["_law_script", "_law_k", "_law_cell", "_law_rest"] ["_law_script", "_law_k"] (defScope s_l_hand) := ⟨rfl, rfl, rfl, by decide +kernel, rfl, by decide +kernel, by decide +kernel⟩
def sp_l_hand (K : PySem.W.Frag) : Sp := fun vs H Q _ => ∃ (v0 : V) (d0 : (List Int)) (d1 : Int) (r : (List Int)), vs = [v0, (.int d1)] ∧ yScr.rep K H [] v0 d0 ∧ Mi.m_l_hand d0 d1 = some r ∧ ∀ v H' F, Chg ([]) H H' → (yLst yInt).rep K H' F v r → (∀ a ∈ F, H a = none) → Q v H'
theorem ok_l_hand (B : Bi mg) (CN : Cs K mg) (D : Dfn K mg "_law_hand" s_l_hand)  : Cal P w K mg "_law_hand" ["_law_script", "_law_k"] 1 (sp_l_hand K) := by
  obtain ⟨f, fd, F, g⟩ := D.ex
  refine ⟨f, fd, g, F.kp, bindsF F (fun _ _ _ _ _ _ us hl => match us, hl with | [_, _], _ => rfl), fun base => F.ok sc_l_hand (fun vs H Q E h => ?_) (fun cdv A outer s H0 vs Q E hr h => ?_)⟩
  · obtain ⟨v0, d0, d1, r, rfl, r0, hm, hQ⟩ := h; rfl
  ·
    obtain ⟨v0, d0, d1, r, rfl, r0, hm, hQ⟩ := h
    refine ⟨_, pss_cons (ps_set (i := 2) sc_l_hand.nd rfl (.inl rfl) pe_int)
      (pss_cons (ps_if (pt_cmpR op_lt (pv 1) (pe_callB (cl_len (K := K)) (by rfl) B.len PySem.boot_len (pa_cons (pv 0) pa_nil)) (nomark _)) (pss_cons (ps_set (i := 2) sc_l_hand.nd rfl (.inl rfl) (pe_ix (ix_l (K := K)) (pv 0) (pv 1) (fun _ _ => rfl)))
      (pss_nil)) (pss_nil))
      (pss_cons (ps_if (pt_cmpR op_lt (pv 2) pe_int (nomark _)) (pss_cons (ps_set (i := 2) sc_l_hand.nd rfl (.inl rfl) (pe_op op_sub pe_int (pe_op op_mul pe_int (pv 2))))
      (pss_nil)) (pss_nil))
      (pss_cons (ps_set (i := 3) sc_l_hand.nd rfl (.inl rfl) pe_int)
      (pss_cons (ps_if (pt_cmpR op_ge (pv 2) (pe_op op_pow pe_int pe_int) (nomark _)) (pss_cons (ps_set (i := 3) sc_l_hand.nd rfl (.inl rfl) (pv 2))
      (pss_nil)) (pss_nil))
      (pss_cons (ps_ret (pe_lst (pa_cons (pv 3) (pa_cons (pe_op op_mod (pe_callTy cl_int (by rfl) B.int (by decide +kernel) (pa_cons (pe_op op_add (pe_op op_add (pv 2) (pe_op op_mul pe_int (pv 1))) pe_int) pa_nil)) pe_int) (pa_cons pe_int pa_nil))))) pss_nil))))), ?_⟩
    have c0 : Chg ([] : List Addr) H0 H0 := Chg.refl H0
    unfold Mi.m_l_hand at hm
    obtain ⟨cell3, hcell3, hm⟩ := Mi.letE hm
    refine q_setE val_c (congrArg V.int hcell3) (σ' := [some v0, some (.int d1), some (.int cell3), none]) rfl ?_
    obtain ⟨s4, hs4, hm⟩ := Mi.bnd hm
    refine s_join (R := fun σ' H' => σ' = [some v0, some (.int d1), some (.int s4), none] ∧ Chg ([] : List Addr) H0 H' ∧ yScr.rep K H' [] v0 d0) (fun nx kx => ?_) (fun σ' H' hj => ?_)
    ·
      refine s_if (ans_t (val_lt (val_var rfl) (val_lenS r0 (val_var rfl)))) (fun hb => ?_) (fun hb => ?_)
      ·
        replace hs4 := Mi.ifT hb hs4
        obtain ⟨x5, hx5, hs4⟩ := Mi.bnd hs4
        obtain ⟨cell6, hcell6, hs4⟩ := Mi.letE hs4
        refine q_setE (itm_S r0 hx5 (val_var rfl) (val_var rfl)) (congrArg V.int hcell6) (σ' := [some v0, some (.int d1), some (.int cell6), none]) rfl ?_
        refine w_nextJ ?_
        obtain rfl := Option.some.inj hs4
        exact kx _ _ ⟨rfl, c0, r0⟩
      ·
        replace hs4 := Mi.ifF hb hs4
        refine w_nextJ ?_
        obtain rfl := Option.some.inj hs4
        exact kx _ _ ⟨rfl, c0, r0⟩
    obtain ⟨rfl, c0, r0⟩ := hj
    obtain ⟨s7, hs7, hm⟩ := Mi.bnd hm
    refine s_join (R := fun σ' H' => σ' = [some v0, some (.int d1), some (.int s7), none] ∧ Chg ([] : List Addr) H0 H' ∧ yScr.rep K H' [] v0 d0) (fun nx kx => ?_) (fun σ' H' hj => ?_)
    ·
      refine s_if (ans_t (val_lt (val_var rfl) val_c)) (fun hb => ?_) (fun hb => ?_)
      ·
        replace hs7 := Mi.ifT hb hs7
        obtain ⟨cell8, hcell8, hs7⟩ := Mi.letE hs7
        refine q_setE (val_sub val_c (val_mulL val_c (val_var rfl) ⟨by decide, by decide⟩)) (congrArg V.int hcell8) (σ' := [some v0, some (.int d1), some (.int cell8), none]) rfl ?_
        refine w_nextJ ?_
        obtain rfl := Option.some.inj hs7
        exact kx _ _ ⟨rfl, c0, r0⟩
      ·
        replace hs7 := Mi.ifF hb hs7
        refine w_nextJ ?_
        obtain rfl := Option.some.inj hs7
        exact kx _ _ ⟨rfl, c0, r0⟩
    obtain ⟨rfl, c0, r0⟩ := hj
    obtain ⟨rest9, hrest9, hm⟩ := Mi.letE hm
    refine q_setE val_c (congrArg V.int hrest9) (σ' := [some v0, some (.int d1), some (.int s7), some (.int rest9)]) rfl ?_
    obtain ⟨s10, hs10, hm⟩ := Mi.bnd hm
    refine s_join (R := fun σ' H' => σ' = [some v0, some (.int d1), some (.int s7), some (.int s10)] ∧ Chg ([] : List Addr) H0 H' ∧ yScr.rep K H' [] v0 d0) (fun nx kx => ?_) (fun σ' H' hj => ?_)
    ·
      refine s_if (ans_t (val_ge (val_var rfl) (val_pow (n := 18) val_c val_c rfl (by decide) (by decide)))) (fun hb => ?_) (fun hb => ?_)
      ·
        replace hs10 := Mi.ifT hb hs10
        obtain ⟨rest11, hrest11, hs10⟩ := Mi.letE hs10
        refine q_setE (val_var rfl) (congrArg V.int hrest11) (σ' := [some v0, some (.int d1), some (.int s7), some (.int rest11)]) rfl ?_
        refine w_nextJ ?_
        obtain rfl := Option.some.inj hs10
        exact kx _ _ ⟨rfl, c0, r0⟩
      ·
        replace hs10 := Mi.ifF hb hs10
        refine w_nextJ ?_
        obtain rfl := Option.some.inj hs10
        exact kx _ _ ⟨rfl, c0, r0⟩
    obtain ⟨rfl, c0, r0⟩ := hj
    refine q_ret ?_
    refine w_lst ?_
    refine w_args (va_cons (val_var rfl) (va_cons (val_modc (val_int (val_add (val_add (val_var rfl) (val_mulL val_c (val_var rfl) ⟨by decide, by decide⟩)) val_c)) val_c (by decide)) (va_cons val_c va_nil))) ?_
    refine e_lst (K := K) (τ := yInt) (by exact Nat.le_of_ble_eq_true rfl) (.cons yInt_i (.cons yInt_i (.cons yInt_i .nil))) fun p12 H16 np15 c13 r14 => ?_
    have n17 : ∀ a ∈ [p12], H0 a = none := one_fresh (c0.dom p12 np15)
    have r0 := Ty.fz r0 c13
    have c0 := c0.trans c13.none
    obtain rfl := Option.some.inj hm
    exact hQ _ _ _ c0 r14 n17 
abbrev s_l_pick : Stmt := topS 31
abbrev N_l_pick : List Str := ["_law_hand_here", "_law_size", "_law_digit", "_law_mixed"]
theorem sc_l_pick : FnScope ["_law_hand_here", "_law_size", "_law_digit", "_law_mixed"] ["_law_hand_here", "_law_size"] (defScope s_l_pick) := ⟨rfl, rfl, rfl, by decide +kernel, rfl, by decide +kernel, by decide +kernel⟩
def sp_l_pick (K : PySem.W.Frag) : Sp := fun vs H Q _ => ∃ (v0 : V) (F0 : List Addr) (d0 : (List Int)) (d1 : Int) (r : (Int × (List Int))), vs = [v0, (.int d1)] ∧ (yLst yInt).rep K H F0 v0 d0 ∧ Mi.m_l_pick d0 d1 = some r ∧ ∀ H', Chg (F0) H H' → (yLst yInt).rep K H' F0 v0 r.2 → Q (.int r.1) H'
theorem ok_l_pick (B : Bi mg) (CN : Cs K mg) (D : Dfn K mg "_law_pick" s_l_pick)  : Cal P w K mg "_law_pick" ["_law_hand_here", "_law_size"] 1 (sp_l_pick K) := by
  obtain ⟨f, fd, F, g⟩ := D.ex
  refine ⟨f, fd, g, F.kp, bindsF F (fun _ _ _ _ _ _ us hl => match us, hl with | [_, _], _ => rfl), fun base => F.ok sc_l_pick (fun vs H Q E h => ?_) (fun cdv A outer s H0 vs Q E hr h => ?_)⟩
  · obtain ⟨v0, F0, d0, d1, r, rfl, r0, hm, hQ⟩ := h; rfl
  ·
    obtain ⟨v0, F0, d0, d1, r, rfl, r0, hm, hQ⟩ := h
    refine ⟨_, pss_cons (ps_if (pt_cmpR op_lt (pv 1) pe_int (nomark _)) (pss_cons (ps_ret pe_int) pss_nil) (pss_nil))
      (pss_cons (ps_if (pt_cmpR op_gt (pe_ix (ix_l (K := K)) (pv 0) pe_int (fun _ _ => rfl)) pe_int (nomark _)) (pss_cons (ps_set (i := 2) sc_l_pick.nd rfl (.inl rfl) (pe_op op_mod (pe_callTy cl_int (by rfl) B.int (by decide +kernel) (pa_cons (pe_ix (ix_l (K := K)) (pv 0) pe_int (fun _ _ => rfl)) pa_nil)) (pv 1)))
      (pss_cons (ps_asg (pe_op op_fdivW (pe_ix (ix_l (K := K)) (pv 0) pe_int (fun _ _ => rfl)) (pv 1)) (pg_sub (pv 0) pe_int set_list))
      (pss_cons (ps_ret (pv 2)) pss_nil))) (pss_nil))
      (pss_cons (ps_asg (pe_op op_add (pe_ix (ix_l (K := K)) (pv 0) pe_int (fun _ _ => rfl)) pe_int) (pg_sub (pv 0) pe_int set_list))
      (pss_cons (ps_set (i := 3) sc_l_pick.nd rfl (.inl rfl) (pe_op op_mod (pe_callTy cl_int (by rfl) B.int (by decide +kernel) (pa_cons (pe_op op_add (pe_op op_add (pe_ix (ix_l (K := K)) (pv 0) pe_int (fun _ _ => rfl)) (pe_op op_mul pe_int (pe_ix (ix_l (K := K)) (pv 0) pe_int (fun _ _ => rfl)))) pe_int) pa_nil)) pe_int))
      (pss_cons (ps_set (i := 3) sc_l_pick.nd rfl (.inl rfl) (pe_op op_mod (pe_callTy cl_int (by rfl) B.int (by decide +kernel) (pa_cons (pe_op op_mul (pv 3) (pe_op op_add (pv 3) pe_int)) pa_nil)) pe_int))
      (pss_cons (ps_set (i := 3) sc_l_pick.nd rfl (.inl rfl) (pe_op op_mod (pe_callTy cl_int (by rfl) B.int (by decide +kernel) (pa_cons (pe_op op_add (pe_op op_mul (pv 3) (pe_op op_add (pv 3) pe_int)) (pe_op op_mul pe_int (pe_ix (ix_l (K := K)) (pv 0) pe_int (fun _ _ => rfl)))) pa_nil)) pe_int))
      (pss_cons (ps_ret (pe_op op_mod (pe_callTy cl_int (by rfl) B.int (by decide +kernel) (pa_cons (pe_op op_fdiv (pv 3) pe_int) pa_nil)) (pv 1))) pss_nil)))))), ?_⟩
    have c0 : Chg (F0) H0 H0 := Chg.refl H0
    unfold Mi.m_l_pick at hm
    refine q_if (ans_t (val_lt (val_var rfl) val_c)) (fun hb => ?_) (fun hb => ?_)
    ·
      replace hm := Mi.ifT hb hm
      refine q_ret ?_
      refine c_val val_c ?_
      obtain rfl := Option.some.inj hm
      exact hQ _ c0 r0
    replace hm := Mi.ifF hb hm
    refine w_fall ?_
    obtain ⟨x3, hx3, hm⟩ := Mi.bnd hm
    refine q_if (ans_t (val_gt (itm_LI r0 hx3 (val_var rfl) val_c) val_c)) (fun hb => ?_) (fun hb => ?_)
    ·
      replace hm := Mi.ifT hb hm
      obtain ⟨x4, hx4, hm⟩ := Mi.bnd hm
      obtain ⟨x5, hx5, hm⟩ := Mi.bnd hm
      obtain ⟨digit6, hdigit6, hm⟩ := Mi.letE hm
      refine q_setE (val_mod (val_int (itm_LI r0 hx4 (val_var rfl) val_c)) (val_var rfl) hx5) (congrArg V.int hdigit6) (σ' := [some v0, some (.int d1), some (.int digit6), none]) rfl ?_
      refine q_asg ?_
      obtain ⟨x7, hx7, hm⟩ := Mi.bnd hm
      obtain ⟨x8, hx8, hm⟩ := Mi.bnd hm
      refine c_val (val_fdiv (itm_LI r0 hx7 (val_var rfl) val_c) (val_var rfl) hx8) ?_
      refine w_gsub ?_
      refine c_val (val_var rfl) ?_
      refine c_val val_c ?_
      obtain ⟨x9, hx9, hm⟩ := Mi.bnd hm
      refine m_set r0 yInt_i hx9 fun H11 c10 r0 => ?_
      have c0 := c0.join c10 (fun a h => .inl (h))
      refine q_ret ?_
      refine c_val (val_var rfl) ?_
      obtain rfl := Option.some.inj hm
      exact hQ _ c0 r0
    replace hm := Mi.ifF hb hm
    refine w_fall ?_
    refine q_asg ?_
    obtain ⟨x12, hx12, hm⟩ := Mi.bnd hm
    refine c_val (val_add (itm_LI r0 hx12 (val_var rfl) val_c) val_c) ?_
    refine w_gsub ?_
    refine c_val (val_var rfl) ?_
    refine c_val val_c ?_
    obtain ⟨x13, hx13, hm⟩ := Mi.bnd hm
    refine m_set r0 yInt_i hx13 fun H15 c14 r0 => ?_
    have c0 := c0.join c14 (fun a h => .inl (h))
    obtain ⟨x16, hx16, hm⟩ := Mi.bnd hm
    obtain ⟨x17, hx17, hm⟩ := Mi.bnd hm
    obtain ⟨mixed18, hmixed18, hm⟩ := Mi.letE hm
    refine q_setE (val_modc (val_int (val_add (val_add (itm_LI r0 hx16 (val_var rfl) val_c) (val_mulL val_c (itm_LI r0 hx17 (val_var rfl) val_c) ⟨by decide, by decide⟩)) val_c)) val_c (by decide)) (congrArg V.int hmixed18) (σ' := [some v0, some (.int d1), none, some (.int mixed18)]) rfl ?_
    obtain ⟨x19, hx19, hm⟩ := Mi.bnd hm
    obtain ⟨mixed20, hmixed20, hm⟩ := Mi.letE hm
    refine q_setE (val_modc (val_int (val_mul (val_var rfl) (val_add (val_var rfl) val_c) hx19)) val_c (by decide)) (congrArg V.int hmixed20) (σ' := [some v0, some (.int d1), none, some (.int mixed20)]) rfl ?_
    obtain ⟨x21, hx21, hm⟩ := Mi.bnd hm
    obtain ⟨x22, hx22, hm⟩ := Mi.bnd hm
    obtain ⟨mixed23, hmixed23, hm⟩ := Mi.letE hm
    refine q_setE (val_modc (val_int (val_add (val_mul (val_var rfl) (val_add (val_var rfl) val_c) hx21) (val_mulL val_c (itm_LI r0 hx22 (val_var rfl) val_c) ⟨by decide, by decide⟩))) val_c (by decide)) (congrArg V.int hmixed23) (σ' := [some v0, some (.int d1), none, some (.int mixed23)]) rfl ?_
    refine q_ret ?_
    obtain ⟨x24, hx24, hm⟩ := Mi.bnd hm
    refine c_val (val_mod (val_int (val_divc (val_var rfl) val_c ⟨by decide, by decide⟩)) (val_var rfl) hx24) ?_
    obtain rfl := Option.some.inj hm
    exact hQ _ c0 r0
abbrev s_l_int : Stmt := topS 32
abbrev N_l_int : List Str := ["_law_x"]
theorem sc_l_int : FnScope ["_law_x"] ["_law_x"] (defScope s_l_int) := ⟨rfl, rfl, rfl, by decide +kernel, rfl, by decide +kernel, by decide +kernel⟩
def sp_l_int (K : PySem.W.Frag) : Sp := fun vs H Q _ => (∃ (d0 : Int) (r : Bool), vs = [(.int d0)] ∧ Mi.m_l_int_0 d0 = some r ∧ ∀ H', Chg ([]) H H' → Q (.bl r) H') ∨ (∃ (v0 : V) (d0 : (Option Int)) (r : Bool), vs = [v0] ∧ (yOpt yInt).rep K H [] v0 d0 ∧ Mi.m_l_int_1 d0 = some r ∧ ∀ H', Chg ([]) H H' → Q (.bl r) H')
theorem ok_l_int (B : Bi mg) (CN : Cs K mg) (D : Dfn K mg "_law_int" s_l_int)  : Cal P w K mg "_law_int" ["_law_x"] 1 (sp_l_int K) := by
  obtain ⟨f, fd, F, g⟩ := D.ex
  refine ⟨f, fd, g, F.kp, bindsF F (fun _ _ _ _ _ _ us hl => match us, hl with | [_], _ => rfl), fun base => F.ok sc_l_int (fun vs H Q E h => ?_) (fun cdv A outer s H0 vs Q E hr h => ?_)⟩
  · rcases h with ⟨d0, r, rfl, hm, hQ⟩ | ⟨v0, d0, r, rfl, r0, hm, hQ⟩
    all_goals rfl
  · rcases h with h | h
    ·
      obtain ⟨d0, r, rfl, hm, hQ⟩ := h
      refine ⟨_, pss_cons (ps_ret (pe_and (pe_callB (cl_isi (K := K)) (by rfl) B.isinstance (by decide +kernel) (pa_cons (pv 0) (pa_cons (pe_bltn (v := .ty "int") (by rfl) B.int (by decide +kernel) rfl) pa_nil))) (pe_one (pe_not (pe_callB (cl_isi (K := K)) (by rfl) B.isinstance (by decide +kernel) (pa_cons (pv 0) (pa_cons (pe_bltn (v := .ty "bool") (by rfl) B.bool (by decide +kernel) rfl) pa_nil))))))) pss_nil, ?_⟩
      have c0 : Chg ([] : List Addr) H0 H0 := Chg.refl H0
      unfold Mi.m_l_int_0 at hm
      refine q_ret ?_
      refine c_val (val_andV (val_isi (val_var rfl) ty_int (n := "int") (m := "int") (b := true) (by decide +kernel)) (fun _ => (val_notV (val_isi (val_var rfl) ty_int (n := "int") (m := "bool") (b := false) (by decide +kernel))))) ?_
      obtain rfl := Option.some.inj hm
      exact hQ _ c0 
    ·
      obtain ⟨v0, d0, r, rfl, r0, hm, hQ⟩ := h
      refine ⟨_, pss_cons (ps_ret (pe_and (pe_callB (cl_isi (K := K)) (by rfl) B.isinstance (by decide +kernel) (pa_cons (pv 0) (pa_cons (pe_bltn (v := .ty "int") (by rfl) B.int (by decide +kernel) rfl) pa_nil))) (pe_one (pe_not (pe_callB (cl_isi (K := K)) (by rfl) B.isinstance (by decide +kernel) (pa_cons (pv 0) (pa_cons (pe_bltn (v := .ty "bool") (by rfl) B.bool (by decide +kernel) rfl) pa_nil))))))) pss_nil, ?_⟩
      have c0 : Chg ([] : List Addr) H0 H0 := Chg.refl H0
      unfold Mi.m_l_int_1 at hm
      refine q_ret ?_
      refine c_val (val_andV (val_isiO (n := "int") (m := "int") (b := true) tyr_int r0 (val_var rfl) (by decide +kernel) (by decide +kernel)) (fun _ => (val_notV (val_isiO (n := "int") (m := "bool") (b := false) tyr_int r0 (val_var rfl) (by decide +kernel) (by decide +kernel))))) ?_
      obtain rfl := Option.some.inj hm
      exact hQ _ c0 
abbrev s_l_some : Stmt := topS 33
abbrev N_l_some : List Str := ["_law_hand_here", "_law_size", "_law_share", "_law_zone", "_law_place"]
theorem sc_l_some : FnScope ["_law_hand_here", "_law_size", "_law_share", "_law_zone", "_law_place"] ["_law_hand_here", "_law_size", "_law_share"] (defScope s_l_some) := ⟨rfl, rfl, rfl, by decide +kernel, rfl, by decide +kernel, by decide +kernel⟩
def sp_l_some (K : PySem.W.Frag) : Sp := fun vs H Q _ => ∃ (v0 : V) (F0 : List Addr) (d0 : (List Int)) (d1 : Int) (d2 : Int) (r : ((List Int) × (List Int))), vs = [v0, (.int d1), (.int d2)] ∧ (yLst yInt).rep K H F0 v0 d0 ∧ Mi.m_l_some d0 d1 d2 = some r ∧ ∀ v H' F, Chg (F0) H H' → (yLst yInt).rep K H' F v r.1 → (∀ a ∈ F, H a = none) → (yLst yInt).rep K H' F0 v0 r.2 → Q v H'
theorem ok_l_some (B : Bi mg) (CN : Cs K mg) (D : Dfn K mg "_law_some" s_l_some) (C_l_pick : Cal P w K mg "_law_pick" ["_law_hand_here", "_law_size"] 1 (sp_l_pick K)) : Cal P w K mg "_law_some" ["_law_hand_here", "_law_size", "_law_share"] 2 (sp_l_some K) := by
  obtain ⟨f, fd, F, g⟩ := D.ex
  refine ⟨f, fd, g, F.kp, bindsF F (fun _ _ _ _ _ _ us hl => match us, hl with | [_, _, _], _ => rfl), fun base => F.ok sc_l_some (fun vs H Q E h => ?_) (fun cdv A outer s H0 vs Q E hr h => ?_)⟩
  · obtain ⟨v0, F0, d0, d1, d2, r, rfl, r0, hm, hQ⟩ := h; rfl
  ·
    obtain ⟨v0, F0, d0, d1, d2, r, rfl, r0, hm, hQ⟩ := h
    refine ⟨_, pss_cons (ps_set (i := 3) sc_l_some.nd rfl (.inl rfl) (pe_lst pa_nil))
      (pss_cons (ps_for PassesOwn.never rfl (pi_range1 (by rfl) B.range (pa_cons (pv 1) pa_nil)) (pg_name (i := 4) sc_l_some.nd rfl (.inl rfl)) (pss_cons (ps_if (pt_cmpR op_eq (pe_cc C_l_pick hr (pa_cons (pv 0) (pa_cons (pv 2) pa_nil))) pe_int (nomark _)) (pss_cons (ps_expr (pe_bm PySem.F.plainAttrs_list PySem.F.slot_list_append PySem.F.type_list_append mt_append (pv 3) (pa_cons (pv 4) pa_nil)))
      (pss_nil)) (pss_nil))
      (pss_nil)))
      (pss_cons (ps_ret (pv 3)) pss_nil)), ?_⟩
    have c0 : Chg (F0) H0 H0 := Chg.refl H0
    unfold Mi.m_l_some at hm
    refine q_asg ?_
    refine w_lst ?_
    refine w_args va_nil ?_
    refine e_lst (K := K) (τ := yInt) (by exact Nat.le_of_ble_eq_true rfl) .nil fun p4 H8 np7 c5 r6 => ?_
    have d9 : Dj F0 [p4] := Ty.nin r0 np7
    have n10 : ∀ a ∈ [p4], H0 a = none := one_fresh (c0.dom p4 np7)
    have r0 := Ty.ex r0 c5
    have c0 := c0.trans c5.none
    refine g_name (σ' := [some v0, some (.int d1), some (.int d2), some (.ref p4), none]) rfl ?_
    refine q_for ?_
    refine w_iRng1 ?_
    refine w_args (va_cons (val_var rfl) va_nil) ?_
    obtain ⟨g11, hg11, hm⟩ := Mi.bnd hm
    obtain ⟨e12, he12, hm⟩ := Mi.bnd hm
    refine l_rng1 hg11 (fun i σ' H' => ∃ (s13 : ((List Int) × (List Int))) (y14 : Option V), σ' = [some v0, some (.int d1), some (.int d2), some (.ref p4), y14] ∧ Chg (F0) H0 H' ∧ (yLst yInt).rep K H' F0 v0 s13.1 ∧ (yLst yInt).rep K H' [p4] (.ref p4) s13.2 ∧ Mi.forN (Mi.m_l_some_b1 d2) s13 (List.drop i g11) = some e12) ⟨(d0, ([] : (List Int))), none, rfl, c0, r0, r6, he12⟩ (fun i17 x16 σ' H' hx15 hp => ?_) (fun σ' H' hp => ?_)
    ·
      obtain ⟨s13, y14, rfl, c0, r0, r6, hle12⟩ := hp
      obtain ⟨_, hbe12, hle12⟩ := Mi.forN_go hle12 hx15
      unfold Mi.m_l_some_b1 at hbe12
      refine g_name (σ' := [some v0, some (.int d1), some (.int d2), some (.ref p4), some (.int x16)]) rfl ?_
      obtain ⟨s18, hs18, hbe12⟩ := Mi.bnd hbe12
      refine s_join (R := fun σ' H' => σ' = [some v0, some (.int d1), some (.int d2), some (.ref p4), some (.int x16)] ∧ Chg (F0) H0 H' ∧ (yLst yInt).rep K H' F0 v0 s18.1 ∧ (yLst yInt).rep K H' [p4] (.ref p4) s18.2) (fun nx kx => ?_) (fun σ' H' hj => ?_)
      ·
        refine w_ifS ?_
        refine w_test ?_
        refine w_op ?_
        refine w_call ?_
        refine w_args (va_cons (val_var rfl) (va_cons (val_var rfl) va_nil)) ?_
        obtain ⟨q19, hq19, hs18⟩ := Mi.bnd hs18
        refine ⟨v0, F0, s13.1, d2, q19, rfl, r0, hq19, fun H21 c20 r0 => ?_⟩
        have r6 := Ty.chg r6 c20 d9.symm
        have c0 := c0.join c20 (fun a h => .inl (h))
        refine c_val val_c ?_
        refine w_eqI ?_
        refine ⟨_, rfl, ?_⟩
        refine c_if (fun hb => ?_) (fun hb => ?_)
        ·
          replace hs18 := Mi.ifT hb hs18
          refine q_drop (w_bm (c_val (val_var rfl) ⟨tyv_lst r6, ?_⟩))
          refine w_args (va_cons (val_var rfl) va_nil) ?_
          obtain ⟨x22, hx22, hs18⟩ := Mi.bnd hs18
          refine m_app r6 yInt_i hx22 fun H24 c23 r6 => ?_
          have r0 := Ty.chg r0 c23 d9
          have c0 := c0.join c23 (fun a h => .inr (n10 a h))
          refine w_nextJ ?_
          obtain rfl := Option.some.inj hs18
          exact kx _ _ ⟨rfl, c0, r0, r6⟩
        ·
          replace hs18 := Mi.ifF hb hs18
          refine w_nextJ ?_
          obtain rfl := Option.some.inj hs18
          exact kx _ _ ⟨rfl, c0, r0, r6⟩
      obtain ⟨rfl, c0, r0, r6⟩ := hj
      refine w_nextJ ?_
      obtain rfl := Option.some.inj hbe12
      exact ⟨_, (some (.int x16)), rfl, c0, r0, r6, hle12⟩
    obtain ⟨s13, y14, rfl, c0, r0, r6, hle12⟩ := hp
    obtain rfl := Mi.forN_end hle12
    refine q_ret ?_
    refine c_val (val_var rfl) ?_
    obtain rfl := Option.some.inj hm
    exact hQ _ _ _ c0 r6 n10 r0
abbrev s_l_sea : Stmt := topS 34
abbrev N_l_sea : List Str := ["_law_hand_here", "_law_most", "_law_size", "_law_span", "_law_swell", "_law_deeps", "_law_joins", "_law_b", "_law_a", "_law_flows", "_law_turn"]
theorem sc_l_sea : FnScope ["_law_hand_here", "_law_most", "_law_size", "_law_span", "_law_swell", "_law_deeps", "_law_joins", "_law_b", "_law_a", "_law_flows", "_law_turn"] ["_law_hand_here", "_law_most"] (defScope s_l_sea) := ⟨rfl, rfl, rfl, by decide +kernel, rfl, by decide +kernel, by decide +kernel⟩
def sp_l_sea (K : PySem.W.Frag) : Sp := fun vs H Q _ => ∃ (v0 : V) (F0 : List Addr) (d0 : (List Int)) (d1 : Int) (r : (((List Int) × (List (Int × Int)) × (List Int) × (List Int)) × (List Int))), vs = [v0, (.int d1)] ∧ (yLst yInt).rep K H F0 v0 d0 ∧ Mi.m_l_sea d0 d1 = some r ∧ ∀ v H' F, Chg (F0) H H' → (yTup (sCons (yLst yInt) (sCons (yLst (yTup (sCons yInt (sOne yInt)))) (sCons (yLst yInt) (sOne (yLst yInt)))))).rep K H' F v r.1 → (∀ a ∈ F, H a = none) → (yLst yInt).rep K H' F0 v0 r.2 → Q v H'
theorem ok_l_sea (B : Bi mg) (CN : Cs K mg) (D : Dfn K mg "_law_sea" s_l_sea) (C_l_pick : Cal P w K mg "_law_pick" ["_law_hand_here", "_law_size"] 1 (sp_l_pick K)) (C_l_some : Cal P w K mg "_law_some" ["_law_hand_here", "_law_size", "_law_share"] 2 (sp_l_some K)) : Cal P w K mg "_law_sea" ["_law_hand_here", "_law_most"] 3 (sp_l_sea K) := by
  obtain ⟨f, fd, F, g⟩ := D.ex
  refine ⟨f, fd, g, F.kp, bindsF F (fun _ _ _ _ _ _ us hl => match us, hl with | [_, _], _ => rfl), fun base => F.ok sc_l_sea (fun vs H Q E h => ?_) (fun cdv A outer s H0 vs Q E hr h => ?_)⟩
  · obtain ⟨v0, F0, d0, d1, r, rfl, r0, hm, hQ⟩ := h; rfl
  ·
    obtain ⟨v0, F0, d0, d1, r, rfl, r0, hm, hQ⟩ := h
    refine ⟨_, pss_cons (ps_set (i := 2) sc_l_sea.nd rfl (.inl rfl) (pe_op op_add pe_int (pe_cc C_l_pick hr (pa_cons (pv 0) (pa_cons (pv 1) pa_nil)))))
      (pss_cons (ps_set (i := 3) sc_l_sea.nd rfl (.inl rfl) (pe_ix (ix_l (K := K)) (pe_lst (pa_cons pe_int (pa_cons pe_int (pa_cons pe_int pa_nil)))) (pe_cc C_l_pick hr (pa_cons (pv 0) (pa_cons pe_int pa_nil))) (fun _ _ => rfl)))
      (pss_cons (ps_set (i := 4) sc_l_sea.nd rfl (.inl rfl) (pe_ix (ix_l (K := K)) (pe_lst (pa_cons pe_int (pa_cons pe_int (pa_cons pe_int pa_nil)))) (pe_cc C_l_pick hr (pa_cons (pv 0) (pa_cons pe_int pa_nil))) (fun _ _ => rfl)))
      (pss_cons (ps_set (i := 5) sc_l_sea.nd rfl (.inl rfl) (pe_lst pa_nil))
      (pss_cons (ps_set (i := 6) sc_l_sea.nd rfl (.inl rfl) (pe_lst pa_nil))
      (pss_cons (ps_for PassesOwn.never rfl (pi_range1 (by rfl) B.range (pa_cons (pv 2) pa_nil)) (pg_name (i := 7) sc_l_sea.nd rfl (.inl rfl)) (pss_cons (ps_expr (pe_bm PySem.F.plainAttrs_list PySem.F.slot_list_append PySem.F.type_list_append mt_append (pv 5) (pa_cons (pe_cc C_l_pick hr (pa_cons (pv 0) (pa_cons (pv 3) pa_nil))) pa_nil)))
      (pss_cons (ps_for PassesOwn.never rfl (pi_range1 (by rfl) B.range (pa_cons (pv 7) pa_nil)) (pg_name (i := 8) sc_l_sea.nd rfl (.inl rfl)) (pss_cons (ps_if (pt_cmpR op_gt (pe_cc C_l_pick hr (pa_cons (pv 0) (pa_cons pe_int pa_nil))) pe_int (nomark _)) (pss_cons (ps_expr (pe_bm PySem.F.plainAttrs_list PySem.F.slot_list_append PySem.F.type_list_append mt_append (pv 6) (pa_cons (pe_tup (pa_cons (pv 8) (pa_cons (pv 7) pa_nil))) pa_nil)))
      (pss_nil)) (pss_nil))
      (pss_nil)))
      (pss_nil))))
      (pss_cons (ps_set (i := 9) sc_l_sea.nd rfl (.inl rfl) (pe_lst (pa_cons pe_int pa_nil)))
      (pss_cons (ps_for PassesOwn.never rfl (pi_range1 (by rfl) B.range (pa_cons (pe_cc C_l_pick hr (pa_cons (pv 0) (pa_cons pe_int pa_nil))) pa_nil)) (pg_name (i := 10) sc_l_sea.nd rfl (.inl rfl)) (pss_cons (ps_expr (pe_bm PySem.F.plainAttrs_list PySem.F.slot_list_append PySem.F.type_list_append mt_append (pv 9) (pa_cons (pe_cc C_l_pick hr (pa_cons (pv 0) (pa_cons (pv 4) pa_nil))) pa_nil)))
      (pss_nil)))
      (pss_cons (ps_ret (pe_tup (pa_cons (pv 5) (pa_cons (pv 6) (pa_cons (pv 9) (pa_cons (pe_cc C_l_some hr (pa_cons (pv 0) (pa_cons (pv 2) (pa_cons pe_int pa_nil)))) pa_nil)))))) pss_nil)))))))), ?_⟩
    have c0 : Chg (F0) H0 H0 := Chg.refl H0
    unfold Mi.m_l_sea at hm
    refine q_asg ?_
    refine w_op ?_
    refine c_val val_c ?_
    refine w_call ?_
    refine w_args (va_cons (val_var rfl) (va_cons (val_var rfl) va_nil)) ?_
    obtain ⟨q3, hq3, hm⟩ := Mi.bnd hm
    refine ⟨v0, F0, d0, d1, q3, rfl, r0, hq3, fun H5 c4 r0 => ?_⟩
    have c0 := c0.join c4 (fun a h => .inl (h))
    refine w_I0 ?_
    obtain ⟨size6, hsize6, hm⟩ := Mi.letE hm
    refine g_nameE (congrArg V.int hsize6) (σ' := [some v0, some (.int d1), some (.int size6), none, none, none, none, none, none, none, none]) rfl ?_
    refine q_asg ?_
    refine w_op ?_
    refine w_lst ?_
    refine w_args (va_cons val_c (va_cons val_c (va_cons val_c va_nil))) ?_
    refine e_lst (K := K) (τ := yInt) (by exact Nat.le_of_ble_eq_true rfl) (.cons yInt_i (.cons yInt_i (.cons yInt_i .nil))) fun p7 H11 np10 c8 r9 => ?_
    have d12 : Dj F0 [p7] := Ty.nin r0 np10
    have n13 : ∀ a ∈ [p7], H0 a = none := one_fresh (c0.dom p7 np10)
    have r0 := Ty.ex r0 c8
    have c0 := c0.trans c8.none
    refine w_call ?_
    refine w_args (va_cons (val_var rfl) (va_cons val_c va_nil)) ?_
    obtain ⟨q14, hq14, hm⟩ := Mi.bnd hm
    refine ⟨v0, F0, q3.2, (3 : Int), q14, rfl, r0, hq14, fun H16 c15 r0 => ?_⟩
    have r9 := Ty.chg r9 c15 d12.symm
    have c0 := c0.join c15 (fun a h => .inl (h))
    obtain ⟨x17, hx17, hm⟩ := Mi.bnd hm
    refine w_ixL r9 hx17 fun u18 r19 => ?_
    obtain ⟨_, rfl⟩ := r19
    refine g_name (σ' := [some v0, some (.int d1), some (.int size6), some (.int x17), none, none, none, none, none, none, none]) rfl ?_
    refine q_asg ?_
    refine w_op ?_
    refine w_lst ?_
    refine w_args (va_cons val_c (va_cons val_c (va_cons val_c va_nil))) ?_
    refine e_lst (K := K) (τ := yInt) (by exact Nat.le_of_ble_eq_true rfl) (.cons yInt_i (.cons yInt_i (.cons yInt_i .nil))) fun p20 H24 np23 c21 r22 => ?_
    have d25 : Dj F0 [p20] := Ty.nin r0 np23
    have n26 : ∀ a ∈ [p20], H0 a = none := one_fresh (c0.dom p20 np23)
    have r0 := Ty.ex r0 c21
    have c0 := c0.trans c21.none
    refine w_call ?_
    refine w_args (va_cons (val_var rfl) (va_cons val_c va_nil)) ?_
    obtain ⟨q27, hq27, hm⟩ := Mi.bnd hm
    refine ⟨v0, F0, q14.2, (3 : Int), q27, rfl, r0, hq27, fun H29 c28 r0 => ?_⟩
    have r22 := Ty.chg r22 c28 d25.symm
    have c0 := c0.join c28 (fun a h => .inl (h))
    obtain ⟨x30, hx30, hm⟩ := Mi.bnd hm
    refine w_ixL r22 hx30 fun u31 r32 => ?_
    obtain ⟨_, rfl⟩ := r32
    refine g_name (σ' := [some v0, some (.int d1), some (.int size6), some (.int x17), some (.int x30), none, none, none, none, none, none]) rfl ?_
    refine q_asg ?_
    refine w_lst ?_
    refine w_args va_nil ?_
    refine e_lst (K := K) (τ := yInt) (by exact Nat.le_of_ble_eq_true rfl) .nil fun p33 H37 np36 c34 r35 => ?_
    have d38 : Dj F0 [p33] := Ty.nin r0 np36
    have n39 : ∀ a ∈ [p33], H0 a = none := one_fresh (c0.dom p33 np36)
    have r0 := Ty.ex r0 c34
    have c0 := c0.trans c34.none
    refine g_name (σ' := [some v0, some (.int d1), some (.int size6), some (.int x17), some (.int x30), some (.ref p33), none, none, none, none, none]) rfl ?_
    refine q_asg ?_
    refine w_lst ?_
    refine w_args va_nil ?_
    refine e_lst (K := K) (τ := (yTup (sCons yInt (sOne yInt)))) (by exact Nat.le_of_ble_eq_true rfl) .nil fun p40 H44 np43 c41 r42 => ?_
    have d45 : Dj F0 [p40] := Ty.nin r0 np43
    have d46 : Dj [p33] [p40] := Ty.nin r35 np43
    have n47 : ∀ a ∈ [p40], H0 a = none := one_fresh (c0.dom p40 np43)
    have r0 := Ty.ex r0 c41
    have r35 := Ty.ex r35 c41
    have c0 := c0.trans c41.none
    refine g_name (σ' := [some v0, some (.int d1), some (.int size6), some (.int x17), some (.int x30), some (.ref p33), some (.ref p40), none, none, none, none]) rfl ?_
    refine q_for ?_
    refine w_iRng1 ?_
    refine w_args (va_cons (val_var rfl) va_nil) ?_
    obtain ⟨g48, hg48, hm⟩ := Mi.bnd hm
    obtain ⟨e49, he49, hm⟩ := Mi.bnd hm
    refine l_rng1 hg48 (fun i σ' H' => ∃ (s50 : ((List Int) × (List Int) × (List (Int × Int)))) (y51 : Option V) (y52 : Option V), σ' = [some v0, some (.int d1), some (.int size6), some (.int x17), some (.int x30), some (.ref p33), some (.ref p40), y51, y52, none, none] ∧ Chg (F0) H0 H' ∧ (yLst yInt).rep K H' F0 v0 s50.1 ∧ (yLst yInt).rep K H' [p33] (.ref p33) s50.2.1 ∧ (yLst (yTup (sCons yInt (sOne yInt)))).rep K H' [p40] (.ref p40) s50.2.2 ∧ Mi.forN (Mi.m_l_sea_b1 x17) s50 (List.drop i g48) = some e49) ⟨(q27.2, ([] : (List Int)), ([] : (List (Int × Int)))), none, none, rfl, c0, r0, r35, r42, he49⟩ (fun i55 x54 σ' H' hx53 hp => ?_) (fun σ' H' hp => ?_)
    ·
      obtain ⟨s50, y51, y52, rfl, c0, r0, r35, r42, hle49⟩ := hp
      obtain ⟨_, hbe49, hle49⟩ := Mi.forN_go hle49 hx53
      unfold Mi.m_l_sea_b1 at hbe49
      refine g_name (σ' := [some v0, some (.int d1), some (.int size6), some (.int x17), some (.int x30), some (.ref p33), some (.ref p40), some (.int x54), y52, none, none]) rfl ?_
      refine q_drop (w_bm (c_val (val_var rfl) ⟨tyv_lst r35, ?_⟩))
      refine w_cons ?_
      refine w_call ?_
      refine w_args (va_cons (val_var rfl) (va_cons (val_var rfl) va_nil)) ?_
      obtain ⟨q56, hq56, hbe49⟩ := Mi.bnd hbe49
      refine ⟨v0, F0, s50.1, x17, q56, rfl, r0, hq56, fun H58 c57 r0 => ?_⟩
      have r35 := Ty.chg r35 c57 d38.symm
      have r42 := Ty.chg r42 c57 d45.symm
      have c0 := c0.join c57 (fun a h => .inl (h))
      refine w_nil ?_
      obtain ⟨x59, hx59, hbe49⟩ := Mi.bnd hbe49
      refine m_app r35 yInt_i hx59 fun H61 c60 r35 => ?_
      have r0 := Ty.chg r0 c60 d38
      have r42 := Ty.chg r42 c60 d46.symm
      have c0 := c0.join c60 (fun a h => .inr (n39 a h))
      refine q_for ?_
      refine w_iRng1 ?_
      refine w_args (va_cons (val_var rfl) va_nil) ?_
      obtain ⟨g62, hg62, hbe49⟩ := Mi.bnd hbe49
      obtain ⟨e63, he63, hbe49⟩ := Mi.bnd hbe49
      refine l_rng1 hg62 (fun i σ' H' => ∃ (s64 : ((List Int) × (List (Int × Int)))) (y65 : Option V), σ' = [some v0, some (.int d1), some (.int size6), some (.int x17), some (.int x30), some (.ref p33), some (.ref p40), some (.int x54), y65, none, none] ∧ Chg (F0) H0 H' ∧ (yLst yInt).rep K H' F0 v0 s64.1 ∧ (yLst yInt).rep K H' [p33] (.ref p33) x59 ∧ (yLst (yTup (sCons yInt (sOne yInt)))).rep K H' [p40] (.ref p40) s64.2 ∧ Mi.forN (Mi.m_l_sea_b2 x54) s64 (List.drop i g62) = some e63) ⟨(q56.2, s50.2.2), y52, rfl, c0, r0, r35, r42, he63⟩ (fun i68 x67 σ' H' hx66 hp => ?_) (fun σ' H' hp => ?_)
      ·
        obtain ⟨s64, y65, rfl, c0, r0, r35, r42, hle63⟩ := hp
        obtain ⟨_, hbe63, hle63⟩ := Mi.forN_go hle63 hx66
        unfold Mi.m_l_sea_b2 at hbe63
        refine g_name (σ' := [some v0, some (.int d1), some (.int size6), some (.int x17), some (.int x30), some (.ref p33), some (.ref p40), some (.int x54), some (.int x67), none, none]) rfl ?_
        obtain ⟨s69, hs69, hbe63⟩ := Mi.bnd hbe63
        refine s_join (R := fun σ' H' => σ' = [some v0, some (.int d1), some (.int size6), some (.int x17), some (.int x30), some (.ref p33), some (.ref p40), some (.int x54), some (.int x67), none, none] ∧ Chg (F0) H0 H' ∧ (yLst yInt).rep K H' F0 v0 s69.1 ∧ (yLst yInt).rep K H' [p33] (.ref p33) x59 ∧ (yLst (yTup (sCons yInt (sOne yInt)))).rep K H' [p40] (.ref p40) s69.2) (fun nx kx => ?_) (fun σ' H' hj => ?_)
        ·
          refine w_ifS ?_
          refine w_test ?_
          refine w_op ?_
          refine w_call ?_
          refine w_args (va_cons (val_var rfl) (va_cons val_c va_nil)) ?_
          obtain ⟨q70, hq70, hs69⟩ := Mi.bnd hs69
          refine ⟨v0, F0, s64.1, (4 : Int), q70, rfl, r0, hq70, fun H72 c71 r0 => ?_⟩
          have r35 := Ty.chg r35 c71 d38.symm
          have r42 := Ty.chg r42 c71 d45.symm
          have c0 := c0.join c71 (fun a h => .inl (h))
          refine c_val val_c ?_
          refine w_I0 ?_
          refine ⟨_, rfl, ?_⟩
          refine c_if (fun hb => ?_) (fun hb => ?_)
          ·
            replace hs69 := Mi.ifT hb hs69
            refine q_drop (w_bm (c_val (val_var rfl) ⟨tyv_lst r42, ?_⟩))
            refine w_cons ?_
            refine w_tup ?_
            refine w_args (va_cons (val_var rfl) (va_cons (val_var rfl) va_nil)) ?_
            refine e_tup (K := K) (ty := (sCons yInt (sOne yInt))) (F := []) (d := (x67, x54)) (by exact Nat.le_of_ble_eq_true rfl) ⟨_, _, _, _, rfl, rfl, yInt_i, ⟨_, rfl, yInt_i⟩⟩ fun p73 H77 np76 c74 r75 => ?_
            have r0 := Ty.ex r0 c74
            have r35 := Ty.ex r35 c74
            have r42 := Ty.ex r42 c74
            have c0 := c0.trans c74.none
            refine w_nil ?_
            obtain ⟨x78, hx78, hs69⟩ := Mi.bnd hs69
            refine m_app r42 r75 hx78 fun H80 c79 r42 => ?_
            have r0 := Ty.chg r0 c79 d45
            have r35 := Ty.chg r35 c79 d46
            have c0 := c0.join c79 (fun a h => .inr (n47 a h))
            refine w_nextJ ?_
            obtain rfl := Option.some.inj hs69
            exact kx _ _ ⟨rfl, c0, r0, r35, r42⟩
          ·
            replace hs69 := Mi.ifF hb hs69
            refine w_nextJ ?_
            obtain rfl := Option.some.inj hs69
            exact kx _ _ ⟨rfl, c0, r0, r35, r42⟩
        obtain ⟨rfl, c0, r0, r35, r42⟩ := hj
        refine w_nextJ ?_
        obtain rfl := Option.some.inj hbe63
        exact ⟨_, (some (.int x67)), rfl, c0, r0, r35, r42, hle63⟩
      obtain ⟨s64, y65, rfl, c0, r0, r35, r42, hle63⟩ := hp
      obtain rfl := Mi.forN_end hle63
      refine w_nextJ ?_
      obtain rfl := Option.some.inj hbe49
      exact ⟨_, (some (.int x54)), y65, rfl, c0, r0, r35, r42, hle49⟩
    obtain ⟨s50, y51, y52, rfl, c0, r0, r35, r42, hle49⟩ := hp
    obtain rfl := Mi.forN_end hle49
    refine q_asg ?_
    refine w_lst ?_
    refine w_args (va_cons val_c va_nil) ?_
    refine e_lst (K := K) (τ := yInt) (by exact Nat.le_of_ble_eq_true rfl) (.cons yInt_i .nil) fun p81 H85 np84 c82 r83 => ?_
    have d86 : Dj F0 [p81] := Ty.nin r0 np84
    have d87 : Dj [p33] [p81] := Ty.nin r35 np84
    have d88 : Dj [p40] [p81] := Ty.nin r42 np84
    have n89 : ∀ a ∈ [p81], H0 a = none := one_fresh (c0.dom p81 np84)
    have r0 := Ty.ex r0 c82
    have r35 := Ty.ex r35 c82
    have r42 := Ty.ex r42 c82
    have c0 := c0.trans c82.none
    refine g_name (σ' := [some v0, some (.int d1), some (.int size6), some (.int x17), some (.int x30), some (.ref p33), some (.ref p40), y51, y52, some (.ref p81), none]) rfl ?_
    refine q_for ?_
    refine w_iRng1 ?_
    refine w_cons ?_
    refine w_call ?_
    refine w_args (va_cons (val_var rfl) (va_cons val_c va_nil)) ?_
    obtain ⟨q90, hq90, hm⟩ := Mi.bnd hm
    refine ⟨v0, F0, s50.1, (3 : Int), q90, rfl, r0, hq90, fun H92 c91 r0 => ?_⟩
    have r35 := Ty.chg r35 c91 d38.symm
    have r42 := Ty.chg r42 c91 d45.symm
    have r83 := Ty.chg r83 c91 d86.symm
    have c0 := c0.join c91 (fun a h => .inl (h))
    refine w_nil ?_
    obtain ⟨g93, hg93, hm⟩ := Mi.bnd hm
    obtain ⟨e94, he94, hm⟩ := Mi.bnd hm
    refine l_rng1 hg93 (fun i σ' H' => ∃ (s95 : ((List Int) × (List Int))) (y96 : Option V), σ' = [some v0, some (.int d1), some (.int size6), some (.int x17), some (.int x30), some (.ref p33), some (.ref p40), y51, y52, some (.ref p81), y96] ∧ Chg (F0) H0 H' ∧ (yLst yInt).rep K H' F0 v0 s95.1 ∧ (yLst yInt).rep K H' [p33] (.ref p33) s50.2.1 ∧ (yLst (yTup (sCons yInt (sOne yInt)))).rep K H' [p40] (.ref p40) s50.2.2 ∧ (yLst yInt).rep K H' [p81] (.ref p81) s95.2 ∧ Mi.forN (Mi.m_l_sea_b3 x30) s95 (List.drop i g93) = some e94) ⟨(q90.2, [(0 : Int)]), none, rfl, c0, r0, r35, r42, r83, he94⟩ (fun i99 x98 σ' H' hx97 hp => ?_) (fun σ' H' hp => ?_)
    ·
      obtain ⟨s95, y96, rfl, c0, r0, r35, r42, r83, hle94⟩ := hp
      obtain ⟨_, hbe94, hle94⟩ := Mi.forN_go hle94 hx97
      unfold Mi.m_l_sea_b3 at hbe94
      refine g_name (σ' := [some v0, some (.int d1), some (.int size6), some (.int x17), some (.int x30), some (.ref p33), some (.ref p40), y51, y52, some (.ref p81), some (.int x98)]) rfl ?_
      refine q_drop (w_bm (c_val (val_var rfl) ⟨tyv_lst r83, ?_⟩))
      refine w_cons ?_
      refine w_call ?_
      refine w_args (va_cons (val_var rfl) (va_cons (val_var rfl) va_nil)) ?_
      obtain ⟨q100, hq100, hbe94⟩ := Mi.bnd hbe94
      refine ⟨v0, F0, s95.1, x30, q100, rfl, r0, hq100, fun H102 c101 r0 => ?_⟩
      have r35 := Ty.chg r35 c101 d38.symm
      have r42 := Ty.chg r42 c101 d45.symm
      have r83 := Ty.chg r83 c101 d86.symm
      have c0 := c0.join c101 (fun a h => .inl (h))
      refine w_nil ?_
      obtain ⟨x103, hx103, hbe94⟩ := Mi.bnd hbe94
      refine m_app r83 yInt_i hx103 fun H105 c104 r83 => ?_
      have r0 := Ty.chg r0 c104 d86
      have r35 := Ty.chg r35 c104 d87
      have r42 := Ty.chg r42 c104 d88
      have c0 := c0.join c104 (fun a h => .inr (n89 a h))
      refine w_nextJ ?_
      obtain rfl := Option.some.inj hbe94
      exact ⟨_, (some (.int x98)), rfl, c0, r0, r35, r42, r83, hle94⟩
    obtain ⟨s95, y96, rfl, c0, r0, r35, r42, r83, hle94⟩ := hp
    obtain rfl := Mi.forN_end hle94
    refine q_ret ?_
    refine w_tup ?_
    refine w_cons ?_
    refine c_val (val_var rfl) ?_
    refine w_cons ?_
    refine c_val (val_var rfl) ?_
    refine w_cons ?_
    refine c_val (val_var rfl) ?_
    refine w_cons ?_
    refine w_call ?_
    refine w_args (va_cons (val_var rfl) (va_cons (val_var rfl) (va_cons val_c va_nil))) ?_
    obtain ⟨q106, hq106, hm⟩ := Mi.bnd hm
    have r0_old := r0
    refine ⟨v0, F0, s95.1, size6, (4 : Int), q106, rfl, r0, hq106, fun v109 H108 F111 c107 r110 fr112 r0 => ?_⟩
    have d113 : Dj F0 F111 := Ty.fresh r0_old fr112
    have d114 : Dj [p33] F111 := Ty.fresh r35 fr112
    have d115 : Dj [p40] F111 := Ty.fresh r42 fr112
    have d116 : Dj [p81] F111 := Ty.fresh r83 fr112
    have n117 : ∀ a ∈ F111, H0 a = none := fun a h => c0.dom a (fr112 a h)
    have r35 := Ty.chg r35 c107 d38.symm
    have r42 := Ty.chg r42 c107 d45.symm
    have r83 := Ty.chg r83 c107 d86.symm
    have c0 := c0.join c107 (fun a h => .inl (h))
    refine w_nil ?_
    refine e_tup (K := K) (ty := (sCons (yLst yInt) (sCons (yLst (yTup (sCons yInt (sOne yInt)))) (sCons (yLst yInt) (sOne (yLst yInt)))))) (F := ([p33] ++ ([p40] ++ ([p81] ++ F111)))) (d := (s50.2.1, s50.2.2, s95.2, q106.1)) (by exact Nat.le_of_ble_eq_true rfl) ⟨_, _, _, _, rfl, rfl, r35, ⟨_, _, _, _, rfl, rfl, r42, ⟨_, _, _, _, rfl, rfl, r83, ⟨_, rfl, r110⟩⟩⟩⟩ fun p118 H122 np121 c119 r120 => ?_
    have r0 := Ty.ex r0 c119
    have r35 := Ty.ex r35 c119
    have r42 := Ty.ex r42 c119
    have r83 := Ty.ex r83 c119
    have r110 := Ty.ex r110 c119
    have c0 := c0.trans c119.none
    have d123 : Dj ([p33] ++ ([p40] ++ ([p81] ++ F111))) F0 := (Dj.app (d38.symm) ((Dj.app (d45.symm) ((Dj.app (d86.symm) (d113.symm))))))
    obtain rfl := Option.some.inj hm
    exact hQ _ _ _ c0 r120 (app_fresh n39 (app_fresh n47 (app_fresh n89 n117))) r0
abbrev s_l_chart : Stmt := topS 35
abbrev N_l_chart : List Str := ["_law_sea_here", "_law_parts", "_law_chart_here", "_law_part"]
theorem sc_l_chart : FnScope ["_law_sea_here", "_law_parts", "_law_chart_here", "_law_part"] ["_law_sea_here"] (defScope s_l_chart) := ⟨rfl, rfl, rfl, by decide +kernel, rfl, by decide +kernel, by decide +kernel⟩
def sp_l_chart (K : PySem.W.Frag) (C_Chart : Addr) : Sp := fun vs H Q _ => ∃ (v0 : V) (F0 : List Addr) (d0 : ((List Int) × (List (Int × Int)) × (List Int) × (List Int))) (r : (Int × (List Int) × (List (Int × Int)) × (List Int) × (List Int) × (List (List Int)))), vs = [v0] ∧ (yTup (sCons (yLst yInt) (sCons (yLst (yTup (sCons yInt (sOne yInt)))) (sCons (yLst yInt) (sOne (yLst yInt)))))).rep K H F0 v0 d0 ∧ Mi.m_l_chart d0 = some r ∧ ∀ v H', Chg ([]) H H' → (yObj C_Chart nm_Chart ty_Chart).rep K H' [] v r → Q v H'
theorem ok_l_chart (B : Bi mg) (CN : Cs K mg) (D : Dfn K mg "_law_chart" s_l_chart) {C_Chart : Addr} (T_Chart : Tx K mg C_Chart "Chart" nm_Chart) (I_Chart : CalI P w K mg C_Chart "Chart.__init__" s_Chart_init (kw_Chart K) ["self", "depths", "lanes", "tide", "harbours"] 3 (sp_Chart_init K C_Chart)) : Cal P w K mg "_law_chart" ["_law_sea_here"] 5 (sp_l_chart K C_Chart) := by
  obtain ⟨f, fd, F, g⟩ := D.ex
  refine ⟨f, fd, g, F.kp, bindsF F (fun _ _ _ _ _ _ us hl => match us, hl with | [_], _ => rfl), fun base => F.ok sc_l_chart (fun vs H Q E h => ?_) (fun cdv A outer s H0 vs Q E hr h => ?_)⟩
  · obtain ⟨v0, F0, d0, r, rfl, r0, hm, hQ⟩ := h; rfl
  ·
    obtain ⟨v0, F0, d0, r, rfl, r0, hm, hQ⟩ := h
    obtain ⟨fI_Chart, fdI_Chart, MI_Chart, FI_Chart, OI_Chart⟩ := I_Chart.ex
    obtain ⟨mv_kb_Chart_2_tide_harbours, kb_Chart_2_tide_harbours⟩ := FunD.kbinds0 (ps := ["self", "depths", "lanes", "tide", "harbours"]) FI_Chart 3 ["tide", "harbours"] [] (fun us mv ws => permG [0, 1, 2, 3, 4] us mv ws) (by intro z; cases z) (fun q hq => nomatch hq) (fun r1 r2 r3 => permG_rel _ r1 r2 r3) (fun _ _ _ _ _ _ us mv ws h1 h2 h3 => match us, mv, ws, h1, h2, h3 with | [_, _, _], [], [_, _], _, _, _ => rfl)
    refine ⟨_, pss_cons (ps_set (i := 1) sc_l_chart.nd rfl (.inl rfl) (pe_lst (pa_cons (pe_callTy (cl_list (K := K)) (by rfl) B.list (by decide +kernel) (pa_cons (pe_ix (ix_t (K := K)) (pv 0) pe_int (fun _ _ => rfl)) pa_nil)) (pa_cons (pe_callTy (cl_list (K := K)) (by rfl) B.list (by decide +kernel) (pa_cons (pe_ix (ix_t (K := K)) (pv 0) pe_int (fun _ _ => rfl)) pa_nil)) (pa_cons (pe_callTy (cl_list (K := K)) (by rfl) B.list (by decide +kernel) (pa_cons (pe_ix (ix_t (K := K)) (pv 0) pe_int (fun _ _ => rfl)) pa_nil)) (pa_cons (pe_callTy (cl_list (K := K)) (by rfl) B.list (by decide +kernel) (pa_cons (pe_ix (ix_t (K := K)) (pv 0) pe_int (fun _ _ => rfl)) pa_nil)) pa_nil))))))
      (pss_cons (ps_set (i := 2) sc_l_chart.nd rfl (.inl rfl) (pe_makeK MI_Chart (OI_Chart base) (hr.mono (by decide)) (by rfl) T_Chart.mgC kb_Chart_2_tide_harbours pass0 (pa_cons (pe_ix (ix_l (K := K)) (pv 1) pe_int (fun _ _ => rfl)) (pa_cons (pe_ix (ix_l (K := K)) (pv 1) pe_int (fun _ _ => rfl)) pa_nil)) (pk_cons (pe_ix (ix_l (K := K)) (pv 1) pe_int (fun _ _ => rfl)) (pk_cons (pe_ix (ix_l (K := K)) (pv 1) pe_int (fun _ _ => rfl)) pk_nil))))
      (pss_cons (ps_for PassesOwn.never rfl (pi_list (pv 1)) (pg_name (i := 3) sc_l_chart.nd rfl (.inl rfl)) (pss_cons (ps_expr (pe_bm0 PySem.F.plainAttrs_list PySem.F.slot_list_clear PySem.F.type_list_clear mt_clear (pv 3))) pss_nil))
      (pss_cons (ps_ret (pv 2)) pss_nil))), ?_⟩
    have c0 : Chg ([] : List Addr) H0 H0 := Chg.refl H0
    unfold Mi.m_l_chart at hm
    refine q_asg ?_
    refine w_lst ?_
    refine w_cons ?_
    refine w_cb ?_
    obtain ⟨u2, F3, r4, su5, kx6, ku7⟩ := itm_tup (n := 0) at0 r0
    refine w_args (va_cons (ku7 (val_var rfl) val_c) va_nil) ?_
    refine w_listL r4 fun p8 H12 np11 c9 r10 => ?_
    have d13 : Dj F0 [p8] := Ty.nin r0 np11
    have d14 : Dj F3 [p8] := Ty.nin r4 np11
    have n15 : ∀ a ∈ [p8], H0 a = none := one_fresh (c0.dom p8 np11)
    have r0 := Ty.ex r0 c9
    have r4 := Ty.ex r4 c9
    have c0 := c0.trans c9.none
    refine w_cons ?_
    refine w_cb ?_
    obtain ⟨u16, F17, r18, su19, kx20, ku21⟩ := itm_tup (n := 1) (atS at0) r0
    have d22 : Dj F17 [p8] := Dj.sub (d13) su19
    refine w_args (va_cons (ku21 (val_var rfl) val_c) va_nil) ?_
    refine w_listL r18 fun p23 H27 np26 c24 r25 => ?_
    have d28 : Dj F0 [p23] := Ty.nin r0 np26
    have d29 : Dj [p8] [p23] := Ty.nin r10 np26
    have d30 : Dj F17 [p23] := Ty.nin r18 np26
    have n31 : ∀ a ∈ [p23], H0 a = none := one_fresh (c0.dom p23 np26)
    have r0 := Ty.ex r0 c24
    have r10 := Ty.ex r10 c24
    have r18 := Ty.ex r18 c24
    have c0 := c0.trans c24.none
    refine w_cons ?_
    refine w_cb ?_
    obtain ⟨u32, F33, r34, su35, kx36, ku37⟩ := itm_tup (n := 2) (atS (atS at0)) r0
    have d38 : Dj F33 [p8] := Dj.sub (d13) su35
    have d39 : Dj F33 [p23] := Dj.sub (d28) su35
    refine w_args (va_cons (ku37 (val_var rfl) val_c) va_nil) ?_
    refine w_listL r34 fun p40 H44 np43 c41 r42 => ?_
    have d45 : Dj F0 [p40] := Ty.nin r0 np43
    have d46 : Dj [p8] [p40] := Ty.nin r10 np43
    have d47 : Dj [p23] [p40] := Ty.nin r25 np43
    have d48 : Dj F33 [p40] := Ty.nin r34 np43
    have n49 : ∀ a ∈ [p40], H0 a = none := one_fresh (c0.dom p40 np43)
    have r0 := Ty.ex r0 c41
    have r10 := Ty.ex r10 c41
    have r25 := Ty.ex r25 c41
    have r34 := Ty.ex r34 c41
    have c0 := c0.trans c41.none
    refine w_cons ?_
    refine w_cb ?_
    obtain ⟨u50, F51, r52, su53, kx54, ku55⟩ := itm_tup (n := 3) (atS (atS (atS at1))) r0
    have d56 : Dj F51 [p8] := Dj.sub (d13) su53
    have d57 : Dj F51 [p23] := Dj.sub (d28) su53
    have d58 : Dj F51 [p40] := Dj.sub (d45) su53
    refine w_args (va_cons (ku55 (val_var rfl) val_c) va_nil) ?_
    refine w_listL r52 fun p59 H63 np62 c60 r61 => ?_
    have d64 : Dj F0 [p59] := Ty.nin r0 np62
    have d65 : Dj [p8] [p59] := Ty.nin r10 np62
    have d66 : Dj [p23] [p59] := Ty.nin r25 np62
    have d67 : Dj [p40] [p59] := Ty.nin r42 np62
    have d68 : Dj F51 [p59] := Ty.nin r52 np62
    have n69 : ∀ a ∈ [p59], H0 a = none := one_fresh (c0.dom p59 np62)
    have r0 := Ty.ex r0 c60
    have r10 := Ty.ex r10 c60
    have r25 := Ty.ex r25 c60
    have r42 := Ty.ex r42 c60
    have r52 := Ty.ex r52 c60
    have c0 := c0.trans c60.none
    refine w_nil ?_
    refine e_hl (K := K) (ts := (sCons (yLst yInt) (sCons (yLst (yTup (sCons yInt (sOne yInt)))) (sCons (yLst yInt) (sOne (yLst yInt)))))) (G := ([p8] ++ ([p23] ++ ([p40] ++ [p59])))) (d := (d0.1, d0.2.1, d0.2.2.1, d0.2.2.2)) (by exact Nat.le_of_ble_eq_true rfl) ⟨_, _, _, _, rfl, rfl, r10, ⟨_, _, _, _, rfl, rfl, r25, ⟨_, _, _, _, rfl, rfl, r42, ⟨_, rfl, r61⟩⟩⟩⟩ fun p70 H74 np73 c71 r72 => ?_
    have d75 : Dj F0 (p70 :: ([p8] ++ ([p23] ++ ([p40] ++ [p59])))) := Dj.consR (Ty.nin r0 np73) (Dj.symm (Dj.app (Dj.symm (d13)) (Dj.symm (Dj.symm (Dj.app (Dj.symm (d28)) (Dj.symm (Dj.symm (Dj.app (Dj.symm (d45)) (Dj.symm (d64))))))))))
    have n76 : ∀ a ∈ (p70 :: ([p8] ++ ([p23] ++ ([p40] ++ [p59])))), H0 a = none := fresh_cons (c0.dom p70 np73) (app_fresh n15 (app_fresh n31 (app_fresh n49 n69)))
    have r0 := Ty.ex r0 c71
    have r10 := Ty.ex r10 c71
    have r25 := Ty.ex r25 c71
    have r42 := Ty.ex r42 c71
    have r61 := Ty.ex r61 c71
    have c0 := c0.trans c71.none
    refine g_name (σ' := [some v0, some (.ref p70), none, none]) rfl ?_
    refine q_asg ?_
    refine w_makeK ?_
    obtain ⟨u77, F78, r79, su80, kx81, ku82⟩ := itm_hl (n := 0) at0 r72
    have d83 : Dj F78 F0 := Dj.sub (d75.symm) su80
    have n84 : ∀ a ∈ F78, H0 a = none := fun a h => n76 a (su80 a h)
    obtain ⟨u85, F86, r87, su88, kx89, ku90⟩ := itm_hl (n := 1) (atS at0) r72
    have d91 : Dj F86 F0 := Dj.sub (d75.symm) su88
    have n92 : ∀ a ∈ F86, H0 a = none := fun a h => n76 a (su88 a h)
    refine w_args (va_cons (ku82 (val_var rfl) val_c) (va_cons (ku90 (val_var rfl) val_c) va_nil)) ?_
    obtain ⟨u93, F94, r95, su96, kx97, ku98⟩ := itm_hl (n := 2) (atS (atS at0)) r72
    have d99 : Dj F94 F0 := Dj.sub (d75.symm) su96
    have n100 : ∀ a ∈ F94, H0 a = none := fun a h => n76 a (su96 a h)
    obtain ⟨u101, F102, r103, su104, kx105, ku106⟩ := itm_hl (n := 3) (atS (atS (atS at1))) r72
    have d107 : Dj F102 F0 := Dj.sub (d75.symm) su104
    have n108 : ∀ a ∈ F102, H0 a = none := fun a h => n76 a (su104 a h)
    refine w_args (va_cons (ku98 (val_var rfl) val_c) (va_cons (ku106 (val_var rfl) val_c) va_nil)) ?_
    refine ⟨rfl, rfl, ?_⟩
    intro p109 dx110 nx111 ndx112 nex113
    have d114 : Dj F0 [p109] := Ty.nin r0 nx111
    have d115 : Dj (p70 :: ([p8] ++ ([p23] ++ ([p40] ++ [p59])))) [p109] := Ty.nin r72 nx111
    have d116 : Dj F78 [p109] := Ty.nin r79 nx111
    have d117 : Dj F86 [p109] := Ty.nin r87 nx111
    have d118 : Dj F94 [p109] := Ty.nin r95 nx111
    have d119 : Dj F102 [p109] := Ty.nin r103 nx111
    have n120 : ∀ a ∈ [p109], H0 a = none := one_fresh (c0.dom p109 nx111)
    obtain ⟨c121, r122⟩ := make_new (K := K) (C := C_Chart) nx111 ndx112 nex113
    have r0 := Ty.ex r0 c121
    have r72 := Ty.ex r72 c121
    have r79 := Ty.ex r79 c121
    have r87 := Ty.ex r87 c121
    have r95 := Ty.ex r95 c121
    have r103 := Ty.ex r103 c121
    have c0 := c0.trans c121.none
    obtain ⟨q123, hq123, hm⟩ := Mi.bnd hm
    refine ⟨p109, dx110, u77, F78, (d0.1, d0.2.1, d0.2.2.1, d0.2.2.2).1, u85, F86, (d0.1, d0.2.1, d0.2.2.1, d0.2.2.2).2.1, u93, F94, (d0.1, d0.2.1, d0.2.2.1, d0.2.2.2).2.2.1, u101, F102, (d0.1, d0.2.1, d0.2.2.1, d0.2.2.2).2.2.2, q123, rfl, r122, r79, r87, r95, r103, d116.symm, d117.symm, d118.symm, d119.symm, hq123, fun H125 c124 r126 => ⟨rfl, ?_⟩⟩
    have r0 := Ty.chg r0 c124 d114
    have r72 := Ty.chg r72 c124 d115
    have c0 := c0.join c124 (fun a h => .inr (n120 a h))
    refine g_name (σ' := [some v0, some (.ref p70), some (.ref p109), none]) rfl ?_
    refine q_for ?_
    refine w_iList ?_
    refine c_val (val_var rfl) ?_
    refine l_clear (s := 3) (als_cons (als_cons (als_cons als_one))) r72 (by exact Nat.le_of_ble_eq_true rfl) (fun D σ H p xs hs hp k => q_drop (w_bm0 (c_val (val_var hs) ⟨.inl ⟨rfl, _, .inl (.inl hp)⟩, ⟨p, xs, rfl, rfl, hp, w_next k⟩⟩))) (fun σ' H128 c127 hσ => ?_)
    obtain ⟨y129, rfl⟩ := hσ
    have r0 := Ty.chg r0 c127 d75
    have r126 := Ty.fz r126 c127
    have c0 := c0.join c127 (fun a h => .inr (n76 a h))
    refine st_eq (σ' := [some v0, some (.ref p70), some (.ref p109), y129]) rfl ?_
    refine q_ret ?_
    refine c_val (val_var rfl) ?_
    obtain rfl := Option.some.inj hm
    exact hQ _ _ c0 r126 
abbrev s_l_corridor : Stmt := topS 36
abbrev N_l_corridor : List Str := ["_law_sea_here", "_law_notes", "_law_ship", "_law_count", "_law_zones", "_law_when", "_law_about", "_law_zone", "_law_place", "_law_n"]
theorem sc_l_corridor : FnScope ["_law_sea_here", "_law_notes", "_law_ship", "_law_count", "_law_zones", "_law_when", "_law_about", "_law_zone", "_law_place", "_law_n"] ["_law_sea_here", "_law_notes", "_law_ship", "_law_count"] (defScope s_l_corridor) := ⟨rfl, rfl, rfl, by decide +kernel, rfl, by decide +kernel, by decide +kernel⟩
def sp_l_corridor (K : PySem.W.Frag) : Sp := fun vs H Q _ => ∃ (v0 : V) (F0 : List Addr) (d0 : ((List Int) × (List (Int × Int)) × (List Int) × (List Int))) (v1 : V) (F1 : List Addr) (d1 : (List (Int × Int × (List Int) × Int × Bool))) (d2 : Int) (d3 : Int) (r : (List (List Int))), vs = [v0, v1, (.int d2), (.int d3)] ∧ (yTup (sCons (yLst yInt) (sCons (yLst (yTup (sCons yInt (sOne yInt)))) (sCons (yLst yInt) (sOne (yLst yInt)))))).rep K H F0 v0 d0 ∧ (yLsg (yTup (sCons yInt (sCons yInt (sCons (yLst yInt) (sCons yInt (sOne yBool))))))).rep K H F1 v1 d1 ∧ Mi.m_l_corridor d0 d1 d2 d3 = some r ∧ ∀ v H' F, Chg ([]) H H' → (yLsg (yLst yInt)).rep K H' F v r → (∀ a ∈ F, H a = none) → Q v H'
theorem ok_l_corridor (B : Bi mg) (CN : Cs K mg) (D : Dfn K mg "_law_corridor" s_l_corridor)  : Cal P w K mg "_law_corridor" ["_law_sea_here", "_law_notes", "_law_ship", "_law_count"] 1 (sp_l_corridor K) := by
  obtain ⟨f, fd, F, g⟩ := D.ex
  refine ⟨f, fd, g, F.kp, bindsF F (fun _ _ _ _ _ _ us hl => match us, hl with | [_, _, _, _], _ => rfl), fun base => F.ok sc_l_corridor (fun vs H Q E h => ?_) (fun cdv A outer s H0 vs Q E hr h => ?_)⟩
  · obtain ⟨v0, F0, d0, v1, F1, d1, d2, d3, r, rfl, r0, r1, hm, hQ⟩ := h; rfl
  ·
    obtain ⟨v0, F0, d0, v1, F1, d1, d2, d3, r, rfl, r0, r1, hm, hQ⟩ := h
    refine ⟨_, pss_cons (ps_set (i := 4) sc_l_corridor.nd rfl (.inl rfl) (pe_lst pa_nil))
      (pss_cons (ps_for PassesOwn.never rfl (pi_range1 (by rfl) B.range (pa_cons (pv 3) pa_nil)) (pg_name (i := 5) sc_l_corridor.nd rfl (.inr rfl)) (pss_cons (ps_setLc (i := 6) (own := [("_law_n", 9)]) rfl sc_l_corridor.nd rfl rfl (sw_true rfl rfl rfl (by decide +kernel)) (pi_list (pv 1)) (blkOk_by (own := [("_law_n", 9)]) (N := N_l_corridor) (sc := defScope s_l_corridor) (by decide +kernel)) (fun _ _ _ _ _ => (pg_name (i := 9) sc_l_corridor.nd rfl (.inl rfl))) (fun _ _ _ _ _ => (pts_one (PW.pt (pw_and (pt_cmpR op_eq (pe_ix (ix_t (K := K)) (pv 9) pe_int (fun _ _ => rfl)) (pv 2) (nomark _)) (pw_and1 (pt_cmpR op_eq (pe_ix (ix_t (K := K)) (pv 9) pe_int (fun _ _ => rfl)) (pv 5) (nomark _))))))) (fun _ _ _ _ _ => (pv 9)))
      (pss_cons (ps_set (i := 7) sc_l_corridor.nd rfl (.inl rfl) (pe_lst pa_nil))
      (pss_cons (ps_for PassesOwn.never rfl (pi_range1 (by rfl) B.range (pa_cons (pe_callB (cl_len (K := K)) (by rfl) B.len PySem.boot_len (pa_cons (pe_ix (ix_t (K := K)) (pv 0) pe_int (fun _ _ => rfl)) pa_nil)) pa_nil)) (pg_name (i := 8) sc_l_corridor.nd rfl (.inr rfl)) (pss_cons (ps_if (pt_cmpR op_eq (pe_callB (cl_len (K := K)) (by rfl) B.len PySem.boot_len (pa_cons (pe_lc (own := [("_law_n", 9)]) rfl sc_l_corridor.nd (pi_list (pv 6)) (blkOk_by (own := [("_law_n", 9)]) (N := N_l_corridor) (sc := defScope s_l_corridor) (by decide +kernel)) (fun _ _ _ _ _ => (pg_name (i := 9) sc_l_corridor.nd rfl (.inl rfl))) (fun _ _ _ _ _ => (pts_one (pt_cmpR op_ne (pe_cmpR (op_in_q (K := K)) (pv 8) (pe_ix (ix_t (K := K)) (pv 9) pe_int (fun _ _ => rfl)) (by rfl)) (pe_ix (ix_t (K := K)) (pv 9) pe_int (fun _ _ => rfl)) (nomark _)))) (fun _ _ _ _ _ => (pv 9))) pa_nil)) pe_int (nomark _)) (pss_cons (ps_expr (pe_bm PySem.F.plainAttrs_list PySem.F.slot_list_append PySem.F.type_list_append mt_append (pv 7) (pa_cons (pv 8) pa_nil)))
      (pss_nil)) (pss_nil))
      (pss_nil)))
      (pss_cons (ps_expr (pe_bm PySem.F.plainAttrs_list PySem.F.slot_list_append PySem.F.type_list_append mt_append (pv 4) (pa_cons (pv 7) pa_nil)))
      (pss_nil))))))
      (pss_cons (ps_ret (pv 4)) pss_nil)), ?_⟩
    have c0 : Chg ([] : List Addr) H0 H0 := Chg.refl H0
    unfold Mi.m_l_corridor at hm
    refine q_asg ?_
    refine w_lst ?_
    refine w_args va_nil ?_
    refine e_lsg (K := K) (τ := (yLst yInt)) (G := []) (by exact Nat.le_of_ble_eq_true rfl) dm_nil .nil fun p5 H9 np8 c6 r7 => ?_
    have d10 : Dj F0 [p5] := Ty.nin r0 np8
    have d11 : Dj F1 [p5] := Ty.nin r1 np8
    have n12 : ∀ a ∈ [p5], H0 a = none := fresh_cons (c0.dom p5 np8) nil_fresh
    have r0 := Ty.ex r0 c6
    have r1 := Ty.ex r1 c6
    have c0 := c0.trans c6.none
    refine g_name (σ' := [some v0, some v1, some (.int d2), some (.int d3), some (.ref p5), none, none, none, none, none]) rfl ?_
    refine q_for ?_
    refine w_iRng1 ?_
    refine w_args (va_cons (val_var rfl) va_nil) ?_
    obtain ⟨g13, hg13, hm⟩ := Mi.bnd hm
    obtain ⟨e14, he14, hm⟩ := Mi.bnd hm
    refine l_rng1 hg13 (fun i σ' H' => ∃ (s15 : (List (List Int))) (y20 : Option V) (y21 : Option V) (y22 : Option V) (y23 : Option V) (v16 : V) (F18 : List Addr), σ' = [some v0, some v1, some (.int d2), some (.int d3), some v16, y20, y21, y22, y23, none] ∧ Chg ([] : List Addr) H0 H' ∧ (yTup (sCons (yLst yInt) (sCons (yLst (yTup (sCons yInt (sOne yInt)))) (sCons (yLst yInt) (sOne (yLst yInt)))))).rep K H' F0 v0 d0 ∧ (yLsg (yTup (sCons yInt (sCons yInt (sCons (yLst yInt) (sCons yInt (sOne yBool))))))).rep K H' F1 v1 d1 ∧ (yLsg (yLst yInt)).rep K H' F18 v16 s15 ∧ (∀ a ∈ F18, H0 a = none) ∧ Dj F18 F0 ∧ Dj F18 F1 ∧ Mi.forN (Mi.m_l_corridor_b1 d0 d1 d2) s15 (List.drop i g13) = some e14) ⟨([] : (List (List Int))), none, none, none, none, (.ref p5), [p5], rfl, c0, r0, r1, r7, n12, d10.symm, d11.symm, he14⟩ (fun i28 x27 σ' H' hx26 hp => ?_) (fun σ' H' hp => ?_)
    ·
      obtain ⟨s15, y20, y21, y22, y23, v16, F18, rfl, c0, r0, r1, r17, n19, d24, d25, hle14⟩ := hp
      obtain ⟨_, hbe14, hle14⟩ := Mi.forN_go hle14 hx26
      unfold Mi.m_l_corridor_b1 at hbe14
      refine g_name (σ' := [some v0, some v1, some (.int d2), some (.int d3), some v16, some (.int x27), y21, y22, y23, none]) rfl ?_
      refine q_asg ?_
      refine w_lc ?_
      refine w_iList ?_
      refine c_val (val_var rfl) ?_
      obtain ⟨e29, he29, hbe14⟩ := Mi.bnd hbe14
      refine kc_lsg (K := K) (τ := yInt) r1 (fun D31 i H' => ∃ (s30 : (List (Int × Int × (List Int) × Int × Bool))) (F33 : List Addr), Chg ([] : List Addr) H0 H' ∧ (yTup (sCons (yLst yInt) (sCons (yLst (yTup (sCons yInt (sOne yInt)))) (sCons (yLst yInt) (sOne (yLst yInt)))))).rep K H' F0 v0 d0 ∧ (yLsg (yTup (sCons yInt (sCons yInt (sCons (yLst yInt) (sCons yInt (sOne yBool))))))).rep K H' F1 v1 d1 ∧ (yLsg (yLst yInt)).rep K H' F18 v16 s15 ∧ (yLsg (yTup (sCons yInt (sCons yInt (sCons (yLst yInt) (sCons yInt (sOne yBool))))))).rep K H' F33 (.ref D31) s30 ∧ Dj F0 [D31] ∧ Dj F1 [D31] ∧ Dj F18 [D31] ∧ Sub F33 (D31 :: F1) ∧ (∀ a ∈ [D31], H0 a = none) ∧ Mi.forN (Mi.m_l_corridor_b2 d2 x27) s30 (List.drop i d1) = some e29) (fun D31 H41 np40 c39 r32 => ⟨([] : (List (Int × Int × (List Int) × Int × Bool))), [D31], c0.trans c39.none, (Ty.ex r0 c39), (Ty.ex r1 c39), (Ty.ex r17 c39), lsg_nil r32, Ty.nin r0 np40, Ty.nin r1 np40, Ty.nin r17 np40, old_one, one_fresh (c0.dom D31 np40), he29⟩) (fun D31 i H' hp => by obtain ⟨s30, F33, c0, r0, r1, r17, r32, d34, d35, d36, so37, n38, _⟩ := hp; exact r1) (fun D31 i44 x43 u46 F48 H45 hx42 r47 su49 hp => ?_) (fun D31 H' np40 hp => ?_)
      ·
        obtain ⟨s30, F33, c0, r0, r1, r17, r32, d34, d35, d36, so37, n38, hle29⟩ := hp
        obtain ⟨_, hbe29, hle29⟩ := Mi.forN_go hle29 hx42
        unfold Mi.m_l_corridor_b2 at hbe29
        have d52 : Dj F48 F18 := Dj.sub (d25.symm) su49
        refine g_name (σ' := [some v0, some v1, some (.int d2), some (.int d3), some v16, some (.int x27), y21, y22, y23, some u46]) rfl ?_
        refine ⟨rfl, ?_⟩
        obtain ⟨u53, F54, r55, su56, kx57, ku58⟩ := itm_tup (n := 0) at0 r47
        obtain ⟨rfl, rfl⟩ := r55
        obtain ⟨u60, F61, r62, su63, kx64, ku65⟩ := itm_tup (n := 1) (atS at0) r47
        obtain ⟨rfl, rfl⟩ := r62
        refine c_ans (ans_andB (ans_t (val_eqI (ku58 (val_var rfl) val_c) (val_var rfl))) (fun _ => (ans_t (val_eqI (ku65 (val_var rfl) val_c) (val_var rfl))))) ?_
        refine c_if (fun hb => ?_) (fun hb => ?_)
        ·
          replace hbe29 := Mi.ifT hb hbe29
          refine c_val (val_var rfl) ?_
          obtain ⟨x66, hx66, hbe29⟩ := Mi.bnd hbe29
          refine e_appG1 r32 r47 (old_nin (d35) su49) hx66 fun H68 F69 c67 r32 sa70 => ?_
          have so37 := old_grow so37 su49 sa70
          have r0 := Ty.chg r0 c67 d34
          have r1 := Ty.chg r1 c67 d35
          have r17 := Ty.chg r17 c67 d36
          have c0 := c0.join c67 (fun a h => .inr (n38 a h))
          obtain rfl := Option.some.inj hbe29
          exact ⟨x66, F69, c0, r0, r1, r17, r32, d34, d35, d36, so37, n38, hle29⟩
        ·
          replace hbe29 := Mi.ifF hb hbe29
          obtain rfl := Option.some.inj hbe29
          exact ⟨s30, F33, c0, r0, r1, r17, r32, d34, d35, d36, so37, n38, hle29⟩
      obtain ⟨s30, F33, c0, r0, r1, r17, r32, d34, d35, d36, so37, n38, hle29⟩ := hp
      obtain rfl := Mi.forN_end hle29
      have d71 : Dj F18 F33 := old_dj d36 (d25) so37
      refine g_name (σ' := [some v0, some v1, some (.int d2), some (.int d3), some v16, some (.int x27), some (.ref D31), y22, y23, none]) rfl ?_
      refine q_asg ?_
      refine w_lst ?_
      refine w_args va_nil ?_
      refine e_lst (K := K) (τ := yInt) (by exact Nat.le_of_ble_eq_true rfl) .nil fun p72 H76 np75 c73 r74 => ?_
      have d77 : Dj F0 [p72] := Ty.nin r0 np75
      have d78 : Dj F1 [p72] := Ty.nin r1 np75
      have d79 : Dj F18 [p72] := Ty.nin r17 np75
      have d80 : Dj F33 [p72] := Ty.nin r32 np75
      have n81 : ∀ a ∈ [p72], H0 a = none := one_fresh (c0.dom p72 np75)
      have r0 := Ty.ex r0 c73
      have r1 := Ty.ex r1 c73
      have r17 := Ty.ex r17 c73
      have r32 := Ty.ex r32 c73
      have c0 := c0.trans c73.none
      refine g_name (σ' := [some v0, some v1, some (.int d2), some (.int d3), some v16, some (.int x27), some (.ref D31), some (.ref p72), y23, none]) rfl ?_
      refine q_for ?_
      refine w_iRng1 ?_
      obtain ⟨u82, F83, r84, su85, kx86, ku87⟩ := itm_tup (n := 0) at0 r0
      have d88 : Dj F83 F18 := Dj.sub (d24.symm) su85
      have d89 : Dj F83 [p72] := Dj.sub (d77) su85
      refine w_args (va_cons (val_lenL r84 (ku87 (val_var rfl) val_c)) va_nil) ?_
      obtain ⟨g90, hg90, hbe14⟩ := Mi.bnd hbe14
      obtain ⟨e91, he91, hbe14⟩ := Mi.bnd hbe14
      refine l_rng1 hg90 (fun i σ' H' => ∃ (s92 : (List Int)) (y93 : Option V), σ' = [some v0, some v1, some (.int d2), some (.int d3), some v16, some (.int x27), some (.ref D31), some (.ref p72), y93, none] ∧ Chg ([] : List Addr) H0 H' ∧ (yTup (sCons (yLst yInt) (sCons (yLst (yTup (sCons yInt (sOne yInt)))) (sCons (yLst yInt) (sOne (yLst yInt)))))).rep K H' F0 v0 d0 ∧ (yLsg (yTup (sCons yInt (sCons yInt (sCons (yLst yInt) (sCons yInt (sOne yBool))))))).rep K H' F1 v1 d1 ∧ (yLsg (yLst yInt)).rep K H' F18 v16 s15 ∧ (yLsg (yTup (sCons yInt (sCons yInt (sCons (yLst yInt) (sCons yInt (sOne yBool))))))).rep K H' F33 (.ref D31) s30 ∧ (yLst yInt).rep K H' [p72] (.ref p72) s92 ∧ Mi.forN (Mi.m_l_corridor_b3 s30) s92 (List.drop i g90) = some e91) ⟨([] : (List Int)), y23, rfl, c0, r0, r1, r17, r32, r74, he91⟩ (fun i96 x95 σ' H' hx94 hp => ?_) (fun σ' H' hp => ?_)
      ·
        obtain ⟨s92, y93, rfl, c0, r0, r1, r17, r32, r74, hle91⟩ := hp
        obtain ⟨_, hbe91, hle91⟩ := Mi.forN_go hle91 hx94
        unfold Mi.m_l_corridor_b3 at hbe91
        refine g_name (σ' := [some v0, some v1, some (.int d2), some (.int d3), some v16, some (.int x27), some (.ref D31), some (.ref p72), some (.int x95), none]) rfl ?_
        obtain ⟨s97, hs97, hbe91⟩ := Mi.bnd hbe91
        refine s_join (R := fun σ' H' => σ' = [some v0, some v1, some (.int d2), some (.int d3), some v16, some (.int x27), some (.ref D31), some (.ref p72), some (.int x95), none] ∧ Chg ([] : List Addr) H0 H' ∧ (yTup (sCons (yLst yInt) (sCons (yLst (yTup (sCons yInt (sOne yInt)))) (sCons (yLst yInt) (sOne (yLst yInt)))))).rep K H' F0 v0 d0 ∧ (yLsg (yTup (sCons yInt (sCons yInt (sCons (yLst yInt) (sCons yInt (sOne yBool))))))).rep K H' F1 v1 d1 ∧ (yLsg (yLst yInt)).rep K H' F18 v16 s15 ∧ (yLsg (yTup (sCons yInt (sCons yInt (sCons (yLst yInt) (sCons yInt (sOne yBool))))))).rep K H' F33 (.ref D31) s30 ∧ (yLst yInt).rep K H' [p72] (.ref p72) s97) (fun nx kx => ?_) (fun σ' H' hj => ?_)
        ·
          refine w_ifS ?_
          refine w_test ?_
          refine w_op ?_
          refine w_cb ?_
          refine w_cons ?_
          refine w_lc ?_
          refine w_iList ?_
          refine c_val (val_var rfl) ?_
          obtain ⟨e98, he98, hs97⟩ := Mi.bnd hs97
          refine kc_lsg (K := K) (τ := yInt) r32 (fun D100 i H' => ∃ (s99 : (List (Int × Int × (List Int) × Int × Bool))) (F102 : List Addr), Chg ([] : List Addr) H0 H' ∧ (yTup (sCons (yLst yInt) (sCons (yLst (yTup (sCons yInt (sOne yInt)))) (sCons (yLst yInt) (sOne (yLst yInt)))))).rep K H' F0 v0 d0 ∧ (yLsg (yTup (sCons yInt (sCons yInt (sCons (yLst yInt) (sCons yInt (sOne yBool))))))).rep K H' F1 v1 d1 ∧ (yLsg (yLst yInt)).rep K H' F18 v16 s15 ∧ (yLsg (yTup (sCons yInt (sCons yInt (sCons (yLst yInt) (sCons yInt (sOne yBool))))))).rep K H' F33 (.ref D31) s30 ∧ (yLst yInt).rep K H' [p72] (.ref p72) s92 ∧ (yLsg (yTup (sCons yInt (sCons yInt (sCons (yLst yInt) (sCons yInt (sOne yBool))))))).rep K H' F102 (.ref D100) s99 ∧ Dj F0 [D100] ∧ Dj F1 [D100] ∧ Dj F18 [D100] ∧ Dj F33 [D100] ∧ Dj [p72] [D100] ∧ Sub F102 (D100 :: F33) ∧ (∀ a ∈ [D100], H0 a = none) ∧ Mi.forN (Mi.m_l_corridor_b4 x95) s99 (List.drop i s30) = some e98) (fun D100 H112 np111 c110 r101 => ⟨([] : (List (Int × Int × (List Int) × Int × Bool))), [D100], c0.trans c110.none, (Ty.ex r0 c110), (Ty.ex r1 c110), (Ty.ex r17 c110), (Ty.ex r32 c110), (Ty.ex r74 c110), lsg_nil r101, Ty.nin r0 np111, Ty.nin r1 np111, Ty.nin r17 np111, Ty.nin r32 np111, Ty.nin r74 np111, old_one, one_fresh (c0.dom D100 np111), he98⟩) (fun D100 i H' hp => by obtain ⟨s99, F102, c0, r0, r1, r17, r32, r74, r101, d103, d104, d105, d106, d107, so108, n109, _⟩ := hp; exact r32) (fun D100 i115 x114 u117 F119 H116 hx113 r118 su120 hp => ?_) (fun D100 H' np111 hp => ?_)
          ·
            obtain ⟨s99, F102, c0, r0, r1, r17, r32, r74, r101, d103, d104, d105, d106, d107, so108, n109, hle98⟩ := hp
            obtain ⟨_, hbe98, hle98⟩ := Mi.forN_go hle98 hx113
            unfold Mi.m_l_corridor_b4 at hbe98
            have d123 : Dj F119 F18 := Dj.sub (d71.symm) su120
            have d124 : Dj F119 [p72] := Dj.sub (d80) su120
            refine g_name (σ' := [some v0, some v1, some (.int d2), some (.int d3), some v16, some (.int x27), some (.ref D31), some (.ref p72), some (.int x95), some u117]) rfl ?_
            refine ⟨rfl, ?_⟩
            obtain ⟨u125, F126, r127, su128, kx129, ku130⟩ := itm_tup (n := 2) (atS (atS at0)) r118
            have d131 : Dj F126 F18 := Dj.sub (d123) su128
            have d132 : Dj F126 [p72] := Dj.sub (d124) su128
            obtain ⟨u133, F134, r135, su136, kx137, ku138⟩ := itm_tup (n := 4) (atS (atS (atS (atS at1)))) r118
            obtain ⟨rfl, rfl⟩ := r135
            refine c_ans (ans_t (val_neB (val_inL r127 (val_var rfl) (ku130 (val_var rfl) val_c)) (ku138 (val_var rfl) val_c))) ?_
            refine c_if (fun hb => ?_) (fun hb => ?_)
            ·
              replace hbe98 := Mi.ifT hb hbe98
              refine c_val (val_var rfl) ?_
              obtain ⟨x139, hx139, hbe98⟩ := Mi.bnd hbe98
              refine e_appG1 r101 r118 (old_nin (d106) su120) hx139 fun H141 F142 c140 r101 sa143 => ?_
              have so108 := old_grow so108 su120 sa143
              have r0 := Ty.chg r0 c140 d103
              have r1 := Ty.chg r1 c140 d104
              have r17 := Ty.chg r17 c140 d105
              have r32 := Ty.chg r32 c140 d106
              have r74 := Ty.chg r74 c140 d107
              have c0 := c0.join c140 (fun a h => .inr (n109 a h))
              obtain rfl := Option.some.inj hbe98
              exact ⟨x139, F142, c0, r0, r1, r17, r32, r74, r101, d103, d104, d105, d106, d107, so108, n109, hle98⟩
            ·
              replace hbe98 := Mi.ifF hb hbe98
              obtain rfl := Option.some.inj hbe98
              exact ⟨s99, F102, c0, r0, r1, r17, r32, r74, r101, d103, d104, d105, d106, d107, so108, n109, hle98⟩
          obtain ⟨s99, F102, c0, r0, r1, r17, r32, r74, r101, d103, d104, d105, d106, d107, so108, n109, hle98⟩ := hp
          obtain rfl := Mi.forN_end hle98
          have d144 : Dj F18 F102 := old_dj d105 (d71) so108
          have d145 : Dj [p72] F102 := old_dj d107 (d80.symm) so108
          refine w_nil ?_
          refine w_lenG r101 ?_
          refine c_val val_c ?_
          refine w_eqI ?_
          refine ⟨_, rfl, ?_⟩
          refine c_if (fun hb => ?_) (fun hb => ?_)
          ·
            replace hs97 := Mi.ifT hb hs97
            refine q_drop (w_bm (c_val (val_var rfl) ⟨tyv_lst r74, ?_⟩))
            refine w_args (va_cons (val_var rfl) va_nil) ?_
            obtain ⟨x146, hx146, hs97⟩ := Mi.bnd hs97
            refine m_app r74 yInt_i hx146 fun H148 c147 r74 => ?_
            have r0 := Ty.chg r0 c147 d77
            have r1 := Ty.chg r1 c147 d78
            have r17 := Ty.chg r17 c147 d79
            have r32 := Ty.chg r32 c147 d80
            have c0 := c0.join c147 (fun a h => .inr (n81 a h))
            refine w_nextJ ?_
            obtain rfl := Option.some.inj hs97
            exact kx _ _ ⟨rfl, c0, r0, r1, r17, r32, r74⟩
          ·
            replace hs97 := Mi.ifF hb hs97
            refine w_nextJ ?_
            obtain rfl := Option.some.inj hs97
            exact kx _ _ ⟨rfl, c0, r0, r1, r17, r32, r74⟩
        obtain ⟨rfl, c0, r0, r1, r17, r32, r74⟩ := hj
        refine w_nextJ ?_
        obtain rfl := Option.some.inj hbe91
        exact ⟨_, (some (.int x95)), rfl, c0, r0, r1, r17, r32, r74, hle91⟩
      obtain ⟨s92, y93, rfl, c0, r0, r1, r17, r32, r74, hle91⟩ := hp
      obtain rfl := Mi.forN_end hle91
      refine q_drop (w_bm (c_val (val_var rfl) ⟨tyv_lsg r17, ?_⟩))
      refine w_args (va_cons (val_var rfl) va_nil) ?_
      obtain ⟨x149, hx149, hbe14⟩ := Mi.bnd hbe14
      refine m_appG r17 r74 (ap_of r17 (d79)) hx149 fun H153 F154 c152 r17 sa155 sb156 => ?_
      have r0 := Ty.chg r0 c152 d24.symm
      have r1 := Ty.chg r1 c152 d25.symm
      have r32 := Ty.chg r32 c152 d71.symm
      have r74 := Ty.chg r74 c152 d79.symm
      have c0 := c0.join c152 (fun a h => .inr (n19 a h))
      have d157 : Dj F0 F154 := Dj.grow (d24.symm) (d77) sb156
      have d158 : Dj F1 F154 := Dj.grow (d25.symm) (d78) sb156
      have d159 : Dj F33 F154 := Dj.grow (d71.symm) (d80) sb156
      have n160 : ∀ a ∈ F154, H0 a = none := fresh_grow n19 n81 sb156
      refine w_nextJ ?_
      obtain rfl := Option.some.inj hbe14
      exact ⟨_, (some (.int x27)), (some (.ref D31)), (some (.ref p72)), y93, v16, F154, rfl, c0, r0, r1, r17, n160, d157.symm, d158.symm, hle14⟩
    obtain ⟨s15, y20, y21, y22, y23, v16, F18, rfl, c0, r0, r1, r17, n19, d24, d25, hle14⟩ := hp
    obtain rfl := Mi.forN_end hle14
    refine q_ret ?_
    refine c_val (val_var rfl) ?_
    obtain rfl := Option.some.inj hm
    exact hQ _ _ _ c0 r17 n19 
abbrev s_l_places : Stmt := topS 37
abbrev N_l_places : List Str := ["_law_code", "_law_kind", "_law_bits", "_law_place"]
theorem sc_l_places : FnScope ["_law_code", "_law_kind", "_law_bits", "_law_place"] ["_law_code"] (defScope s_l_places) := ⟨rfl, rfl, rfl, by decide +kernel, rfl, by decide +kernel, by decide +kernel⟩
def sp_l_places (K : PySem.W.Frag) : Sp := fun vs H Q _ => ∃ (d0 : Int) (r : (List Int)), vs = [(.int d0)] ∧ Mi.m_l_places d0 = some r ∧ ∀ v H' F, Chg ([]) H H' → (yLst yInt).rep K H' F v r → (∀ a ∈ F, H a = none) → Q v H'
theorem ok_l_places (B : Bi mg) (CN : Cs K mg) (D : Dfn K mg "_law_places" s_l_places)  : Cal P w K mg "_law_places" ["_law_code"] 1 (sp_l_places K) := by
  obtain ⟨f, fd, F, g⟩ := D.ex
  refine ⟨f, fd, g, F.kp, bindsF F (fun _ _ _ _ _ _ us hl => match us, hl with | [_], _ => rfl), fun base => F.ok sc_l_places (fun vs H Q E h => ?_) (fun cdv A outer s H0 vs Q E hr h => ?_)⟩
  · obtain ⟨d0, r, rfl, hm, hQ⟩ := h; rfl
  ·
    obtain ⟨d0, r, rfl, hm, hQ⟩ := h
    refine ⟨_, pss_cons (ps_set (i := 1) sc_l_places.nd rfl (.inl rfl) (pe_op op_mod (pe_callTy cl_int (by rfl) B.int (by decide +kernel) (pa_cons (pv 0) pa_nil)) pe_int))
      (pss_cons (ps_set (i := 2) sc_l_places.nd rfl (.inr rfl) (pe_op op_fdiv (pv 0) pe_int))
      (pss_cons (ps_if (pt_cmpR op_eq (pv 1) pe_int (nomark _)) (pss_cons (ps_set (i := 2) sc_l_places.nd rfl (.inr rfl) pe_int)
      (pss_nil)) (pss_nil))
      (pss_cons (ps_if (pt_cmpR op_eq (pv 1) pe_int (nomark _)) (pss_cons (ps_set (i := 2) sc_l_places.nd rfl (.inr rfl) pe_int)
      (pss_nil)) (pss_nil))
      (pss_cons (ps_if (pt_cmpR op_eq (pv 1) pe_int (nomark _)) (pss_cons (ps_set (i := 2) sc_l_places.nd rfl (.inr rfl) (pe_op op_shl pe_int (pe_op op_mod (pe_callTy cl_int (by rfl) B.int (by decide +kernel) (pa_cons (pv 2) pa_nil)) pe_int)))
      (pss_nil)) (pss_nil))
      (pss_cons (ps_ret (pe_lc (own := [("_law_place", 3)]) rfl sc_l_places.nd (pi_range1 (by rfl) B.range (pa_cons pe_int pa_nil)) (blkOk_by (own := [("_law_place", 3)]) (N := N_l_places) (sc := defScope s_l_places) (by decide +kernel)) (fun _ _ _ _ _ => (pg_name (i := 3) sc_l_places.nd rfl (.inl rfl))) (fun _ _ _ _ _ => (pts_one (pt_cmpR op_eq (pe_op op_mod (pe_callTy cl_int (by rfl) B.int (by decide +kernel) (pa_cons (pe_op op_shr (pv 2) (pv 3)) pa_nil)) pe_int) pe_int (nomark _)))) (fun _ _ _ _ _ => (pv 3)))) pss_nil))))), ?_⟩
    have c0 : Chg ([] : List Addr) H0 H0 := Chg.refl H0
    unfold Mi.m_l_places at hm
    obtain ⟨kind2, hkind2, hm⟩ := Mi.letE hm
    refine q_setE (val_modc (val_int (val_var rfl)) val_c (by decide)) (congrArg V.int hkind2) (σ' := [some (.int d0), some (.int kind2), none, none]) rfl ?_
    obtain ⟨bits3, hbits3, hm⟩ := Mi.letE hm
    refine q_setE (val_divc (val_var rfl) val_c ⟨by decide, by decide⟩) (congrArg V.int hbits3) (σ' := [some (.int d0), some (.int kind2), some (.int bits3), none]) rfl ?_
    obtain ⟨s4, hs4, hm⟩ := Mi.bnd hm
    refine s_join (R := fun σ' H' => σ' = [some (.int d0), some (.int kind2), some (.int s4), none] ∧ Chg ([] : List Addr) H0 H') (fun nx kx => ?_) (fun σ' H' hj => ?_)
    ·
      refine s_if (ans_t (val_eqI (val_var rfl) val_c)) (fun hb => ?_) (fun hb => ?_)
      ·
        replace hs4 := Mi.ifT hb hs4
        obtain ⟨bits5, hbits5, hs4⟩ := Mi.letE hs4
        refine q_setE val_c (congrArg V.int hbits5) (σ' := [some (.int d0), some (.int kind2), some (.int bits5), none]) rfl ?_
        refine w_nextJ ?_
        obtain rfl := Option.some.inj hs4
        exact kx _ _ ⟨rfl, c0⟩
      ·
        replace hs4 := Mi.ifF hb hs4
        refine w_nextJ ?_
        obtain rfl := Option.some.inj hs4
        exact kx _ _ ⟨rfl, c0⟩
    obtain ⟨rfl, c0⟩ := hj
    obtain ⟨s6, hs6, hm⟩ := Mi.bnd hm
    refine s_join (R := fun σ' H' => σ' = [some (.int d0), some (.int kind2), some (.int s6), none] ∧ Chg ([] : List Addr) H0 H') (fun nx kx => ?_) (fun σ' H' hj => ?_)
    ·
      refine s_if (ans_t (val_eqI (val_var rfl) val_c)) (fun hb => ?_) (fun hb => ?_)
      ·
        replace hs6 := Mi.ifT hb hs6
        obtain ⟨bits7, hbits7, hs6⟩ := Mi.letE hs6
        refine q_setE val_c (congrArg V.int hbits7) (σ' := [some (.int d0), some (.int kind2), some (.int bits7), none]) rfl ?_
        refine w_nextJ ?_
        obtain rfl := Option.some.inj hs6
        exact kx _ _ ⟨rfl, c0⟩
      ·
        replace hs6 := Mi.ifF hb hs6
        refine w_nextJ ?_
        obtain rfl := Option.some.inj hs6
        exact kx _ _ ⟨rfl, c0⟩
    obtain ⟨rfl, c0⟩ := hj
    obtain ⟨s8, hs8, hm⟩ := Mi.bnd hm
    refine s_join (R := fun σ' H' => σ' = [some (.int d0), some (.int kind2), some (.int s8), none] ∧ Chg ([] : List Addr) H0 H') (fun nx kx => ?_) (fun σ' H' hj => ?_)
    ·
      refine s_if (ans_t (val_eqI (val_var rfl) val_c)) (fun hb => ?_) (fun hb => ?_)
      ·
        replace hs8 := Mi.ifT hb hs8
        obtain ⟨x9, hx9, hs8⟩ := Mi.bnd hs8
        obtain ⟨bits10, hbits10, hs8⟩ := Mi.letE hs8
        refine q_setE (val_shlO val_c (val_modc (val_int (val_var rfl)) val_c (by decide)) hx9) (congrArg V.int hbits10) (σ' := [some (.int d0), some (.int kind2), some (.int bits10), none]) rfl ?_
        refine w_nextJ ?_
        obtain rfl := Option.some.inj hs8
        exact kx _ _ ⟨rfl, c0⟩
      ·
        replace hs8 := Mi.ifF hb hs8
        refine w_nextJ ?_
        obtain rfl := Option.some.inj hs8
        exact kx _ _ ⟨rfl, c0⟩
    obtain ⟨rfl, c0⟩ := hj
    refine q_ret ?_
    refine w_lc ?_
    refine w_iRng1 ?_
    refine w_args (va_cons val_c va_nil) ?_
    obtain ⟨g11, hg11, hm⟩ := Mi.bnd hm
    obtain ⟨e12, he12, hm⟩ := Mi.bnd hm
    refine kc_rng1 (K := K) (τ := yInt) hg11 (fun D14 i H' => ∃ (s13 : (List Int)), Chg ([] : List Addr) H0 H' ∧ (yLst yInt).rep K H' [D14] (.ref D14) s13 ∧ (∀ a ∈ [D14], H0 a = none) ∧ Mi.forN (Mi.m_l_places_b1 s8) s13 (List.drop i g11) = some e12) (fun D14 H20 np19 c18 r15 => ⟨([] : (List Int)), c0.trans c18.none, r15, one_fresh (c0.dom D14 np19), he12⟩) (fun D14 i23 x22 H24 hx21 hp => ?_) (fun D14 H' np19 hp => ?_)
    ·
      obtain ⟨s13, c0, r15, n17, hle12⟩ := hp
      obtain ⟨_, hbe12, hle12⟩ := Mi.forN_go hle12 hx21
      unfold Mi.m_l_places_b1 at hbe12
      refine g_name (σ' := [some (.int d0), some (.int kind2), some (.int s8), some (.int x22)]) rfl ?_
      refine ⟨rfl, ?_⟩
      obtain ⟨x31, hx31, hbe12⟩ := Mi.bnd hbe12
      refine c_ans (ans_t (val_eqI (val_modc (val_int (val_shrO (val_var rfl) (val_var rfl) hx31)) val_c (by decide)) val_c)) ?_
      refine c_if (fun hb => ?_) (fun hb => ?_)
      ·
        replace hbe12 := Mi.ifT hb hbe12
        refine c_val (val_var rfl) ?_
        obtain ⟨x32, hx32, hbe12⟩ := Mi.bnd hbe12
        refine e_app r15 yInt_i hx32 fun H34 c33 r15 => ?_
        have c0 := c0.join c33 (fun a h => .inr (n17 a h))
        obtain rfl := Option.some.inj hbe12
        exact ⟨x32, c0, r15, n17, hle12⟩
      ·
        replace hbe12 := Mi.ifF hb hbe12
        obtain rfl := Option.some.inj hbe12
        exact ⟨s13, c0, r15, n17, hle12⟩
    obtain ⟨s13, c0, r15, n17, hle12⟩ := hp
    obtain rfl := Mi.forN_end hle12
    obtain rfl := Option.some.inj hm
    exact hQ _ _ _ c0 r15 n17 
abbrev s_l_turned : Stmt := topS 38
abbrev N_l_turned : List Str := ["_law_code", "_law_zone", "_law_spot", "_law_handed"]
theorem sc_l_turned : FnScope ["_law_code", "_law_zone", "_law_spot", "_law_handed"] ["_law_code", "_law_zone"] (defScope s_l_turned) := ⟨rfl, rfl, rfl, by decide +kernel, rfl, by decide +kernel, by decide +kernel⟩
def sp_l_turned (K : PySem.W.Frag) : Sp := fun vs H Q _ => ∃ (d0 : Int) (v1 : V) (F1 : List Addr) (d1 : (List Int)) (r : (List Int)), vs = [(.int d0), v1] ∧ (yLst yInt).rep K H F1 v1 d1 ∧ Mi.m_l_turned d0 d1 = some r ∧ ∀ v H' F, Chg ([]) H H' → (yLst yInt).rep K H' F v r → (∀ a ∈ F, H a = none) → Q v H'
theorem ok_l_turned (B : Bi mg) (CN : Cs K mg) (D : Dfn K mg "_law_turned" s_l_turned)  : Cal P w K mg "_law_turned" ["_law_code", "_law_zone"] 1 (sp_l_turned K) := by
  obtain ⟨f, fd, F, g⟩ := D.ex
  refine ⟨f, fd, g, F.kp, bindsF F (fun _ _ _ _ _ _ us hl => match us, hl with | [_, _], _ => rfl), fun base => F.ok sc_l_turned (fun vs H Q E h => ?_) (fun cdv A outer s H0 vs Q E hr h => ?_)⟩
  · obtain ⟨d0, v1, F1, d1, r, rfl, r1, hm, hQ⟩ := h; rfl
  ·
    obtain ⟨d0, v1, F1, d1, r, rfl, r1, hm, hQ⟩ := h
    refine ⟨_, pss_cons (ps_set (i := 2) sc_l_turned.nd rfl (.inl rfl) (pe_op op_mod (pe_callTy cl_int (by rfl) B.int (by decide +kernel) (pa_cons (pe_op op_fdiv (pv 0) pe_int) pa_nil)) (pe_callB (cl_max2 rfl) (by rfl) B.max (by decide +kernel) (pa_cons pe_int (pa_cons (pe_callB (cl_len (K := K)) (by rfl) B.len PySem.boot_len (pa_cons (pv 1) pa_nil)) pa_nil)))))
      (pss_cons (ps_set (i := 3) sc_l_turned.nd rfl (.inl rfl) (pe_op op_cat (pe_slice (sl_l (K := K)) (pv 1) (po_some (pv 2)) po_none) (pe_slice (sl_l (K := K)) (pv 1) po_none (po_some (pv 2)))))
      (pss_cons (ps_if (pt_cmpR op_eq (pe_op op_mod (pe_callTy cl_int (by rfl) B.int (by decide +kernel) (pa_cons (pv 0) pa_nil)) pe_int) pe_int (nomark _)) (pss_cons (ps_set (i := 3) sc_l_turned.nd rfl (.inl rfl) (pe_listRevK (K := K) rfl (by rfl) B.list (by rfl) B.reversed (pv 3)))
      (pss_nil)) (pss_nil))
      (pss_cons (ps_ret (pv 3)) pss_nil))), ?_⟩
    have c0 : Chg ([] : List Addr) H0 H0 := Chg.refl H0
    unfold Mi.m_l_turned at hm
    obtain ⟨x3, hx3, hm⟩ := Mi.bnd hm
    obtain ⟨spot4, hspot4, hm⟩ := Mi.letE hm
    refine q_setE (val_mod (val_int (val_divc (val_var rfl) val_c ⟨by decide, by decide⟩)) (val_max2 val_c (val_lenL r1 (val_var rfl))) hx3) (congrArg V.int hspot4) (σ' := [some (.int d0), some v1, some (.int spot4), none]) rfl ?_
    refine q_asg ?_
    refine w_op ?_
    refine w_sl ?_
    refine c_val (val_var rfl) ?_
    refine w_pos ?_
    refine c_val (val_var rfl) ?_
    refine ⟨_, rfl, ?_⟩
    refine w_pon ?_
    refine w_cutL r1 fun p5 H9 np8 c6 r7 => ?_
    have d10 : Dj F1 [p5] := Ty.nin r1 np8
    have n11 : ∀ a ∈ [p5], H0 a = none := one_fresh (c0.dom p5 np8)
    have r1 := Ty.ex r1 c6
    have c0 := c0.trans c6.none
    refine w_sl ?_
    refine c_val (val_var rfl) ?_
    refine w_pon ?_
    refine w_pos ?_
    refine c_val (val_var rfl) ?_
    refine ⟨_, rfl, ?_⟩
    refine w_cutL r1 fun p12 H16 np15 c13 r14 => ?_
    have d17 : Dj F1 [p12] := Ty.nin r1 np15
    have d18 : Dj [p5] [p12] := Ty.nin r7 np15
    have n19 : ∀ a ∈ [p12], H0 a = none := one_fresh (c0.dom p12 np15)
    have r1 := Ty.ex r1 c13
    have r7 := Ty.ex r7 c13
    have c0 := c0.trans c13.none
    obtain ⟨x20, hx20, hm⟩ := Mi.bnd hm
    refine w_cat r7 r14 hx20 fun p21 H25 np24 c22 r23 => ?_
    have d26 : Dj F1 [p21] := Ty.nin r1 np24
    have d27 : Dj [p5] [p21] := Ty.nin r7 np24
    have d28 : Dj [p12] [p21] := Ty.nin r14 np24
    have n29 : ∀ a ∈ [p21], H0 a = none := one_fresh (c0.dom p21 np24)
    have r1 := Ty.ex r1 c22
    have r7 := Ty.ex r7 c22
    have r14 := Ty.ex r14 c22
    have c0 := c0.trans c22.none
    refine g_name (σ' := [some (.int d0), some v1, some (.int spot4), some (.ref p21)]) rfl ?_
    obtain ⟨s30, hs30, hm⟩ := Mi.bnd hm
    refine s_join (R := fun σ' H' => ∃ (v31 : V) (F33 : List Addr), σ' = [some (.int d0), some v1, some (.int spot4), some v31] ∧ Chg ([] : List Addr) H0 H' ∧ (yLst yInt).rep K H' F1 v1 d1 ∧ (yLst yInt).rep K H' F33 v31 s30 ∧ (∀ a ∈ F33, H0 a = none) ∧ Dj F33 F1) (fun nx kx => ?_) (fun σ' H' hj => ?_)
    ·
      refine s_if (ans_t (val_eqI (val_modc (val_int (val_var rfl)) val_c (by decide)) val_c)) (fun hb => ?_) (fun hb => ?_)
      ·
        replace hs30 := Mi.ifT hb hs30
        refine q_asg ?_
        refine w_lrev ?_
        refine c_val (val_var rfl) ?_
        refine x_lrev r23 fun p36 H40 np39 c37 r38 => ?_
        have d41 : Dj F1 [p36] := Ty.nin r1 np39
        have d42 : Dj [p21] [p36] := Ty.nin r23 np39
        have n43 : ∀ a ∈ [p36], H0 a = none := one_fresh (c0.dom p36 np39)
        have r1 := Ty.ex r1 c37
        have r23 := Ty.ex r23 c37
        have c0 := c0.trans c37.none
        refine g_name (σ' := [some (.int d0), some v1, some (.int spot4), some (.ref p36)]) rfl ?_
        refine w_nextJ ?_
        obtain rfl := Option.some.inj hs30
        exact kx _ _ ⟨(.ref p36), [p36], rfl, c0, r1, r38, n43, d41.symm⟩
      ·
        replace hs30 := Mi.ifF hb hs30
        refine w_nextJ ?_
        obtain rfl := Option.some.inj hs30
        exact kx _ _ ⟨(.ref p21), [p21], rfl, c0, r1, r23, n29, d26.symm⟩
    obtain ⟨v31, F33, rfl, c0, r1, r32, n34, d35⟩ := hj
    refine q_ret ?_
    refine c_val (val_var rfl) ?_
    obtain rfl := Option.some.inj hm
    exact hQ _ _ _ c0 r32 n34 
abbrev s_l_wild : Stmt := topS 39
abbrev N_l_wild : List Str := ["_law_hand_here", "_law_count", "_law_last", "_law_number", "_law_notes", "_law_k", "_law_who", "_law_when", "_law_zone", "_law_worth"]
theorem sc_l_wild : FnScope ["_law_hand_here", "_law_count", "_law_last", "_law_number", "_law_notes", "_law_k", "_law_who", "_law_when", "_law_zone", "_law_worth"] ["_law_hand_here", "_law_count", "_law_last", "_law_number"] (defScope s_l_wild) := ⟨rfl, rfl, rfl, by decide +kernel, rfl, by decide +kernel, by decide +kernel⟩
def sp_l_wild (K : PySem.W.Frag) : Sp := fun vs H Q _ => ∃ (v0 : V) (F0 : List Addr) (d0 : (List Int)) (d1 : Int) (d2 : Int) (d3 : Int) (r : ((List (Int × Int × (List Int) × Int × Bool)) × (List Int))), vs = [v0, (.int d1), (.int d2), (.int d3)] ∧ (yLst yInt).rep K H F0 v0 d0 ∧ Mi.m_l_wild d0 d1 d2 d3 = some r ∧ ∀ v H' F, Chg (F0) H H' → (yLsg (yTup (sCons yInt (sCons yInt (sCons (yLst yInt) (sCons yInt (sOne yBool))))))).rep K H' F v r.1 → (∀ a ∈ F, H a = none) → (yLst yInt).rep K H' F0 v0 r.2 → Q v H'
theorem ok_l_wild (B : Bi mg) (CN : Cs K mg) (D : Dfn K mg "_law_wild" s_l_wild) (C_l_pick : Cal P w K mg "_law_pick" ["_law_hand_here", "_law_size"] 1 (sp_l_pick K)) (C_l_places : Cal P w K mg "_law_places" ["_law_code"] 1 (sp_l_places K)) : Cal P w K mg "_law_wild" ["_law_hand_here", "_law_count", "_law_last", "_law_number"] 2 (sp_l_wild K) := by
  obtain ⟨f, fd, F, g⟩ := D.ex
  refine ⟨f, fd, g, F.kp, bindsF F (fun _ _ _ _ _ _ us hl => match us, hl with | [_, _, _, _], _ => rfl), fun base => F.ok sc_l_wild (fun vs H Q E h => ?_) (fun cdv A outer s H0 vs Q E hr h => ?_)⟩
  · obtain ⟨v0, F0, d0, d1, d2, d3, r, rfl, r0, hm, hQ⟩ := h; rfl
  ·
    obtain ⟨v0, F0, d0, d1, d2, d3, r, rfl, r0, hm, hQ⟩ := h
    refine ⟨_, pss_cons (ps_set (i := 4) sc_l_wild.nd rfl (.inl rfl) (pe_lst pa_nil))
      (pss_cons (ps_for PassesOwn.never rfl (pi_range1 (by rfl) B.range (pa_cons (pv 1) pa_nil)) (pg_name (i := 5) sc_l_wild.nd rfl (.inl rfl)) (pss_cons (ps_set (i := 6) sc_l_wild.nd rfl (.inl rfl) (pe_cc C_l_pick hr (pa_cons (pv 0) (pa_cons pe_int pa_nil))))
      (pss_cons (ps_set (i := 7) sc_l_wild.nd rfl (.inl rfl) (pe_cc C_l_pick hr (pa_cons (pv 0) (pa_cons pe_int pa_nil))))
      (pss_cons (ps_set (i := 8) sc_l_wild.nd rfl (.inl rfl) (pe_cc C_l_places hr (pa_cons (pe_cc C_l_pick hr (pa_cons (pv 0) (pa_cons pe_int pa_nil))) pa_nil)))
      (pss_cons (ps_set (i := 9) sc_l_wild.nd rfl (.inl rfl) (pe_cc C_l_pick hr (pa_cons (pv 0) (pa_cons pe_int pa_nil))))
      (pss_cons (ps_if (pt_cmpR op_gt (pv 6) pe_int (nomark _)) (pss_cons (ps_set (i := 6) sc_l_wild.nd rfl (.inl rfl) (pv 3))
      (pss_nil)) (pss_nil))
      (pss_cons (ps_if (pt_cmpR op_lt (pv 7) pe_int (nomark _)) (pss_cons (ps_set (i := 7) sc_l_wild.nd rfl (.inl rfl) (pe_op op_mod (pe_callTy cl_int (by rfl) B.int (by decide +kernel) (pa_cons (pv 7) pa_nil)) (pe_op op_add (pv 2) pe_int)))
      (pss_nil)) (pss_cons (ps_set (i := 7) sc_l_wild.nd rfl (.inl rfl) (pe_op op_sub (pv 7) pe_int))
      (pss_nil)))
      (pss_cons (ps_expr (pe_bm PySem.F.plainAttrs_list PySem.F.slot_list_append PySem.F.type_list_append mt_append (pv 4) (pa_cons (pe_tup (pa_cons (pv 6) (pa_cons (pv 7) (pa_cons (pv 8) (pa_cons (pe_op op_add pe_int (pe_op op_fdiv (pv 9) pe_int)) (pa_cons (pe_cmpR op_eq (pe_op op_mod (pe_callTy cl_int (by rfl) B.int (by decide +kernel) (pa_cons (pv 9) pa_nil)) pe_int) pe_int (nomark _)) pa_nil)))))) pa_nil)))
      (pss_nil)))))))))
      (pss_cons (ps_ret (pv 4)) pss_nil)), ?_⟩
    have c0 : Chg (F0) H0 H0 := Chg.refl H0
    unfold Mi.m_l_wild at hm
    refine q_asg ?_
    refine w_lst ?_
    refine w_args va_nil ?_
    refine e_lsg (K := K) (τ := (yTup (sCons yInt (sCons yInt (sCons (yLst yInt) (sCons yInt (sOne yBool))))))) (G := []) (by exact Nat.le_of_ble_eq_true rfl) dm_nil .nil fun p5 H9 np8 c6 r7 => ?_
    have d10 : Dj F0 [p5] := Ty.nin r0 np8
    have n11 : ∀ a ∈ [p5], H0 a = none := fresh_cons (c0.dom p5 np8) nil_fresh
    have r0 := Ty.ex r0 c6
    have c0 := c0.trans c6.none
    refine g_name (σ' := [some v0, some (.int d1), some (.int d2), some (.int d3), some (.ref p5), none, none, none, none, none]) rfl ?_
    refine q_for ?_
    refine w_iRng1 ?_
    refine w_args (va_cons (val_var rfl) va_nil) ?_
    obtain ⟨g12, hg12, hm⟩ := Mi.bnd hm
    obtain ⟨e13, he13, hm⟩ := Mi.bnd hm
    refine l_rng1 hg12 (fun i σ' H' => ∃ (s14 : ((List Int) × (List (Int × Int × (List Int) × Int × Bool)))) (y19 : Option V) (y20 : Option V) (y21 : Option V) (y22 : Option V) (y23 : Option V) (v15 : V) (F17 : List Addr), σ' = [some v0, some (.int d1), some (.int d2), some (.int d3), some v15, y19, y20, y21, y22, y23] ∧ Chg (F0) H0 H' ∧ (yLst yInt).rep K H' F0 v0 s14.1 ∧ (yLsg (yTup (sCons yInt (sCons yInt (sCons (yLst yInt) (sCons yInt (sOne yBool))))))).rep K H' F17 v15 s14.2 ∧ (∀ a ∈ F17, H0 a = none) ∧ Dj F17 F0 ∧ Mi.forN (Mi.m_l_wild_b1 d2 d3) s14 (List.drop i g12) = some e13) ⟨(d0, ([] : (List (Int × Int × (List Int) × Int × Bool)))), none, none, none, none, none, (.ref p5), [p5], rfl, c0, r0, r7, n11, d10.symm, he13⟩ (fun i27 x26 σ' H' hx25 hp => ?_) (fun σ' H' hp => ?_)
    ·
      obtain ⟨s14, y19, y20, y21, y22, y23, v15, F17, rfl, c0, r0, r16, n18, d24, hle13⟩ := hp
      obtain ⟨_, hbe13, hle13⟩ := Mi.forN_go hle13 hx25
      unfold Mi.m_l_wild_b1 at hbe13
      refine g_name (σ' := [some v0, some (.int d1), some (.int d2), some (.int d3), some v15, some (.int x26), y20, y21, y22, y23]) rfl ?_
      refine q_asg ?_
      refine w_call ?_
      refine w_args (va_cons (val_var rfl) (va_cons val_c va_nil)) ?_
      obtain ⟨q28, hq28, hbe13⟩ := Mi.bnd hbe13
      refine ⟨v0, F0, s14.1, (12 : Int), q28, rfl, r0, hq28, fun H30 c29 r0 => ?_⟩
      have r16 := Ty.chg r16 c29 d24
      have c0 := c0.join c29 (fun a h => .inl (h))
      refine g_name (σ' := [some v0, some (.int d1), some (.int d2), some (.int d3), some v15, some (.int x26), some (.int q28.1), y21, y22, y23]) rfl ?_
      refine q_asg ?_
      refine w_call ?_
      refine w_args (va_cons (val_var rfl) (va_cons val_c va_nil)) ?_
      obtain ⟨q31, hq31, hbe13⟩ := Mi.bnd hbe13
      refine ⟨v0, F0, q28.2, (100 : Int), q31, rfl, r0, hq31, fun H33 c32 r0 => ?_⟩
      have r16 := Ty.chg r16 c32 d24
      have c0 := c0.join c32 (fun a h => .inl (h))
      refine g_name (σ' := [some v0, some (.int d1), some (.int d2), some (.int d3), some v15, some (.int x26), some (.int q28.1), some (.int q31.1), y22, y23]) rfl ?_
      refine q_asg ?_
      refine w_call ?_
      refine w_cons ?_
      refine w_call ?_
      refine w_args (va_cons (val_var rfl) (va_cons val_c va_nil)) ?_
      obtain ⟨q34, hq34, hbe13⟩ := Mi.bnd hbe13
      refine ⟨v0, F0, q31.2, (24576 : Int), q34, rfl, r0, hq34, fun H36 c35 r0 => ?_⟩
      have r16 := Ty.chg r16 c35 d24
      have c0 := c0.join c35 (fun a h => .inl (h))
      refine w_nil ?_
      obtain ⟨q37, hq37, hbe13⟩ := Mi.bnd hbe13
      refine ⟨q34.1, q37, rfl, hq37, fun v40 H39 F42 c38 r41 fr43  => ?_⟩
      have d44 : Dj F0 F42 := Ty.fresh r0 fr43
      have d45 : Dj F17 F42 := Ty.fresh r16 fr43
      have n46 : ∀ a ∈ F42, H0 a = none := fun a h => c0.dom a (fr43 a h)
      have r0 := Ty.ex r0 c38
      have r16 := Ty.ex r16 c38
      have c0 := c0.trans c38.none
      refine g_name (σ' := [some v0, some (.int d1), some (.int d2), some (.int d3), some v15, some (.int x26), some (.int q28.1), some (.int q31.1), some v40, y23]) rfl ?_
      refine q_asg ?_
      refine w_call ?_
      refine w_args (va_cons (val_var rfl) (va_cons val_c va_nil)) ?_
      obtain ⟨q47, hq47, hbe13⟩ := Mi.bnd hbe13
      refine ⟨v0, F0, q34.2, (198 : Int), q47, rfl, r0, hq47, fun H49 c48 r0 => ?_⟩
      have r16 := Ty.chg r16 c48 d24
      have r41 := Ty.chg r41 c48 d44.symm
      have c0 := c0.join c48 (fun a h => .inl (h))
      refine g_name (σ' := [some v0, some (.int d1), some (.int d2), some (.int d3), some v15, some (.int x26), some (.int q28.1), some (.int q31.1), some v40, some (.int q47.1)]) rfl ?_
      obtain ⟨s50, hs50, hbe13⟩ := Mi.bnd hbe13
      refine s_join (R := fun σ' H' => σ' = [some v0, some (.int d1), some (.int d2), some (.int d3), some v15, some (.int x26), some (.int s50), some (.int q31.1), some v40, some (.int q47.1)] ∧ Chg (F0) H0 H' ∧ (yLst yInt).rep K H' F0 v0 q47.2 ∧ (yLsg (yTup (sCons yInt (sCons yInt (sCons (yLst yInt) (sCons yInt (sOne yBool))))))).rep K H' F17 v15 s14.2 ∧ (yLst yInt).rep K H' F42 v40 q37) (fun nx kx => ?_) (fun σ' H' hj => ?_)
      ·
        refine s_if (ans_t (val_gt (val_var rfl) val_c)) (fun hb => ?_) (fun hb => ?_)
        ·
          replace hs50 := Mi.ifT hb hs50
          obtain ⟨who51, hwho51, hs50⟩ := Mi.letE hs50
          refine q_setE (val_var rfl) (congrArg V.int hwho51) (σ' := [some v0, some (.int d1), some (.int d2), some (.int d3), some v15, some (.int x26), some (.int who51), some (.int q31.1), some v40, some (.int q47.1)]) rfl ?_
          refine w_nextJ ?_
          obtain rfl := Option.some.inj hs50
          exact kx _ _ ⟨rfl, c0, r0, r16, r41⟩
        ·
          replace hs50 := Mi.ifF hb hs50
          refine w_nextJ ?_
          obtain rfl := Option.some.inj hs50
          exact kx _ _ ⟨rfl, c0, r0, r16, r41⟩
      obtain ⟨rfl, c0, r0, r16, r41⟩ := hj
      obtain ⟨s52, hs52, hbe13⟩ := Mi.bnd hbe13
      refine s_join (R := fun σ' H' => σ' = [some v0, some (.int d1), some (.int d2), some (.int d3), some v15, some (.int x26), some (.int s50), some (.int s52), some v40, some (.int q47.1)] ∧ Chg (F0) H0 H' ∧ (yLst yInt).rep K H' F0 v0 q47.2 ∧ (yLsg (yTup (sCons yInt (sCons yInt (sCons (yLst yInt) (sCons yInt (sOne yBool))))))).rep K H' F17 v15 s14.2 ∧ (yLst yInt).rep K H' F42 v40 q37) (fun nx kx => ?_) (fun σ' H' hj => ?_)
      ·
        refine s_if (ans_t (val_lt (val_var rfl) val_c)) (fun hb => ?_) (fun hb => ?_)
        ·
          replace hs52 := Mi.ifT hb hs52
          obtain ⟨x53, hx53, hs52⟩ := Mi.bnd hs52
          obtain ⟨when54, hwhen54, hs52⟩ := Mi.letE hs52
          refine q_setE (val_mod (val_int (val_var rfl)) (val_add (val_var rfl) val_c) hx53) (congrArg V.int hwhen54) (σ' := [some v0, some (.int d1), some (.int d2), some (.int d3), some v15, some (.int x26), some (.int s50), some (.int when54), some v40, some (.int q47.1)]) rfl ?_
          refine w_nextJ ?_
          obtain rfl := Option.some.inj hs52
          exact kx _ _ ⟨rfl, c0, r0, r16, r41⟩
        ·
          replace hs52 := Mi.ifF hb hs52
          obtain ⟨when55, hwhen55, hs52⟩ := Mi.letE hs52
          refine q_setE (val_sub (val_var rfl) val_c) (congrArg V.int hwhen55) (σ' := [some v0, some (.int d1), some (.int d2), some (.int d3), some v15, some (.int x26), some (.int s50), some (.int when55), some v40, some (.int q47.1)]) rfl ?_
          refine w_nextJ ?_
          obtain rfl := Option.some.inj hs52
          exact kx _ _ ⟨rfl, c0, r0, r16, r41⟩
      obtain ⟨rfl, c0, r0, r16, r41⟩ := hj
      refine q_drop (w_bm (c_val (val_var rfl) ⟨tyv_lsg r16, ?_⟩))
      refine w_cons ?_
      refine w_tup ?_
      refine w_args (va_cons (val_var rfl) (va_cons (val_var rfl) (va_cons (val_var rfl) (va_cons (val_add val_c (val_divc (val_var rfl) val_c ⟨by decide, by decide⟩)) (va_cons (val_eqI (val_modc (val_int (val_var rfl)) val_c (by decide)) val_c) va_nil))))) ?_
      refine e_tup (K := K) (ty := (sCons yInt (sCons yInt (sCons (yLst yInt) (sCons yInt (sOne yBool)))))) (F := ([] ++ ([] ++ (F42 ++ ([] ++ []))))) (d := (s50, s52, q37, ((1 : Int) + (q47.1 / (2 : Int))), (decide ((q47.1 % (2 : Int)) = (0 : Int))))) (by exact Nat.le_of_ble_eq_true rfl) ⟨_, _, _, _, rfl, rfl, yInt_i, ⟨_, _, _, _, rfl, rfl, yInt_i, ⟨_, _, _, _, rfl, rfl, r41, ⟨_, _, _, _, rfl, rfl, yInt_i, ⟨_, rfl, yBool_i⟩⟩⟩⟩⟩ fun p56 H60 np59 c57 r58 => ?_
      have r0 := Ty.ex r0 c57
      have r16 := Ty.ex r16 c57
      have r41 := Ty.ex r41 c57
      have c0 := c0.trans c57.none
      have d61 : Dj ([] ++ ([] ++ (F42 ++ ([] ++ [])))) F0 := (Dj.app (Dj.nil) ((Dj.app (Dj.nil) ((Dj.app (d44.symm) ((Dj.app (Dj.nil) (Dj.nil))))))))
      have d62 : Dj ([] ++ ([] ++ (F42 ++ ([] ++ [])))) F17 := (Dj.app (Dj.nil) ((Dj.app (Dj.nil) ((Dj.app (d45.symm) ((Dj.app (Dj.nil) (Dj.nil))))))))
      refine w_nil ?_
      obtain ⟨x63, hx63, hbe13⟩ := Mi.bnd hbe13
      refine m_appG r16 r58 (ap_of r16 (d62.symm)) hx63 fun H67 F68 c66 r16 sa69 sb70 => ?_
      have r0 := Ty.chg r0 c66 d24.symm
      have r41 := Ty.chg r41 c66 d45.symm
      have r58 := Ty.chg r58 c66 d62
      have c0 := c0.join c66 (fun a h => .inr (n18 a h))
      have d71 : Dj F0 F68 := Dj.grow (d24.symm) (d61.symm) sb70
      have n72 : ∀ a ∈ F68, H0 a = none := fresh_grow n18 (app_fresh nil_fresh (app_fresh nil_fresh (app_fresh n46 (app_fresh nil_fresh nil_fresh)))) sb70
      refine w_nextJ ?_
      obtain rfl := Option.some.inj hbe13
      exact ⟨_, (some (.int x26)), (some (.int s50)), (some (.int s52)), (some v40), (some (.int q47.1)), v15, F68, rfl, c0, r0, r16, n72, d71.symm, hle13⟩
    obtain ⟨s14, y19, y20, y21, y22, y23, v15, F17, rfl, c0, r0, r16, n18, d24, hle13⟩ := hp
    obtain rfl := Mi.forN_end hle13
    refine q_ret ?_
    refine c_val (val_var rfl) ?_
    obtain rfl := Option.some.inj hm
    exact hQ _ _ _ c0 r16 n18 r0
abbrev s_l_flag : Stmt := topS 40
abbrev N_l_flag : List Str := ["_law_told", "_law_due"]
theorem sc_l_flag : FnScope ["_law_told", "_law_due"] ["_law_told", "_law_due"] (defScope s_l_flag) := ⟨rfl, rfl, rfl, by decide +kernel, rfl, by decide +kernel, by decide +kernel⟩
def sp_l_flag (K : PySem.W.Frag) : Sp := fun vs H Q _ => ∃ (d0 : Bool) (d1 : Bool) (r : Bool), vs = [(.bl d0), (.bl d1)] ∧ Mi.m_l_flag d0 d1 = some r ∧ ∀ H', Chg ([]) H H' → Q (.bl r) H'
theorem ok_l_flag (B : Bi mg) (CN : Cs K mg) (D : Dfn K mg "_law_flag" s_l_flag)  : Cal P w K mg "_law_flag" ["_law_told", "_law_due"] 1 (sp_l_flag K) := by
  obtain ⟨f, fd, F, g⟩ := D.ex
  refine ⟨f, fd, g, F.kp, bindsF F (fun _ _ _ _ _ _ us hl => match us, hl with | [_, _], _ => rfl), fun base => F.ok sc_l_flag (fun vs H Q E h => ?_) (fun cdv A outer s H0 vs Q E hr h => ?_)⟩
  · obtain ⟨d0, d1, r, rfl, hm, hQ⟩ := h; rfl
  ·
    obtain ⟨d0, d1, r, rfl, hm, hQ⟩ := h
    refine ⟨_, pss_cons (ps_if (pt_val (pv 1)) (pss_cons (ps_ret (pe_cmpR op_isB (pv 0) pe_bl (nomark _))) pss_nil) (pss_nil))
      (pss_cons (ps_ret (pe_cmpR op_isB (pv 0) pe_bl (nomark _))) pss_nil), ?_⟩
    have c0 : Chg ([] : List Addr) H0 H0 := Chg.refl H0
    unfold Mi.m_l_flag at hm
    refine q_if (ans_B (val_var rfl)) (fun hb => ?_) (fun hb => ?_)
    ·
      replace hm := Mi.ifT hb hm
      refine q_ret ?_
      refine c_val (val_isB (val_var rfl) val_c) ?_
      obtain rfl := Option.some.inj hm
      exact hQ _ c0 
    replace hm := Mi.ifF hb hm
    refine w_fall ?_
    refine q_ret ?_
    refine c_val (val_isB (val_var rfl) val_c) ?_
    obtain rfl := Option.some.inj hm
    exact hQ _ c0 
abbrev s_l_report : Stmt := topS 41
abbrev N_l_report : List Str := ["_law_code", "_law_note", "_law_handed", "_law_report_here"]
theorem sc_l_report : FnScope ["_law_code", "_law_note", "_law_handed", "_law_report_here"] ["_law_code", "_law_note"] (defScope s_l_report) := ⟨rfl, rfl, rfl, by decide +kernel, rfl, by decide +kernel, by decide +kernel⟩
def sp_l_report (K : PySem.W.Frag) (C_Report : Addr) : Sp := fun vs H Q _ => ∃ (d0 : Int) (v1 : V) (F1 : List Addr) (d1 : (Int × Int × (List Int) × Int × Bool)) (r : (Int × Int × (List Int) × Int × Bool)), vs = [(.int d0), v1] ∧ (yTup (sCons yInt (sCons yInt (sCons (yLst yInt) (sCons yInt (sOne yBool)))))).rep K H F1 v1 d1 ∧ Mi.m_l_report d0 d1 = some r ∧ ∀ v H', Chg ([]) H H' → (yObj C_Report nm_Report ty_Report).rep K H' [] v r → Q v H'
theorem ok_l_report (B : Bi mg) (CN : Cs K mg) (D : Dfn K mg "_law_report" s_l_report) {C_Report : Addr} (T_Report : Tx K mg C_Report "Report" nm_Report) (I_Report : CalI P w K mg C_Report "Report.__init__" s_Report_init (kw_Report K) ["self", "ship", "hour", "zone", "weight", "inside"] 2 (sp_Report_init K C_Report)) (C_l_turned : Cal P w K mg "_law_turned" ["_law_code", "_law_zone"] 1 (sp_l_turned K)) : Cal P w K mg "_law_report" ["_law_code", "_law_note"] 4 (sp_l_report K C_Report) := by
  obtain ⟨f, fd, F, g⟩ := D.ex
  refine ⟨f, fd, g, F.kp, bindsF F (fun _ _ _ _ _ _ us hl => match us, hl with | [_, _], _ => rfl), fun base => F.ok sc_l_report (fun vs H Q E h => ?_) (fun cdv A outer s H0 vs Q E hr h => ?_)⟩
  · obtain ⟨d0, v1, F1, d1, r, rfl, r1, hm, hQ⟩ := h; rfl
  ·
    obtain ⟨d0, v1, F1, d1, r, rfl, r1, hm, hQ⟩ := h
    obtain ⟨fI_Report, fdI_Report, MI_Report, FI_Report, OI_Report⟩ := I_Report.ex
    obtain ⟨mv_kb_Report_3_weight_inside, kb_Report_3_weight_inside⟩ := FunD.kbinds0 (ps := ["self", "ship", "hour", "zone", "weight", "inside"]) FI_Report 4 ["weight", "inside"] [] (fun us mv ws => permG [0, 1, 2, 3, 4, 5] us mv ws) (by intro z; cases z) (fun q hq => nomatch hq) (fun r1 r2 r3 => permG_rel _ r1 r2 r3) (fun _ _ _ _ _ _ us mv ws h1 h2 h3 => match us, mv, ws, h1, h2, h3 with | [_, _, _, _], [], [_, _], _, _, _ => rfl)
    refine ⟨_, pss_cons (ps_set (i := 2) sc_l_report.nd rfl (.inl rfl) (pe_cc C_l_turned hr (pa_cons (pe_op op_fdiv (pv 0) pe_int) (pa_cons (pe_ix (ix_t (K := K)) (pv 1) pe_int (fun _ _ => rfl)) pa_nil))))
      (pss_cons (ps_if (pt_cmpR op_eq (pe_op op_mod (pe_callTy cl_int (by rfl) B.int (by decide +kernel) (pa_cons (pv 0) pa_nil)) pe_int) pe_int (nomark _)) (pss_cons (ps_ret (pe_makeK MI_Report (OI_Report base) (hr.mono (by decide)) (by rfl) T_Report.mgC kb_Report_3_weight_inside pass0 (pa_cons (pe_ix (ix_t (K := K)) (pv 1) pe_int (fun _ _ => rfl)) (pa_cons (pe_ix (ix_t (K := K)) (pv 1) pe_int (fun _ _ => rfl)) (pa_cons (pe_callTy (cl_tuple (K := K)) (by rfl) B.tuple (by decide +kernel) (pa_cons (pv 2) pa_nil)) pa_nil))) (pk_cons (pe_ix (ix_t (K := K)) (pv 1) pe_int (fun _ _ => rfl)) (pk_cons (pe_ix (ix_t (K := K)) (pv 1) pe_int (fun _ _ => rfl)) pk_nil)))) pss_nil) (pss_nil))
      (pss_cons (ps_set (i := 3) sc_l_report.nd rfl (.inl rfl) (pe_makeK MI_Report (OI_Report base) (hr.mono (by decide)) (by rfl) T_Report.mgC kb_Report_3_weight_inside pass0 (pa_cons (pe_ix (ix_t (K := K)) (pv 1) pe_int (fun _ _ => rfl)) (pa_cons (pe_ix (ix_t (K := K)) (pv 1) pe_int (fun _ _ => rfl)) (pa_cons (pv 2) pa_nil))) (pk_cons (pe_ix (ix_t (K := K)) (pv 1) pe_int (fun _ _ => rfl)) (pk_cons (pe_ix (ix_t (K := K)) (pv 1) pe_int (fun _ _ => rfl)) pk_nil))))
      (pss_cons (ps_expr (pe_bm PySem.F.plainAttrs_list PySem.F.slot_list_append PySem.F.type_list_append mt_append (pv 2) (pa_cons pe_int pa_nil)))
      (pss_cons (ps_expr (pe_bm PySem.F.plainAttrs_list PySem.F.slot_list_append PySem.F.type_list_append mt_append (pv 2) (pa_cons pe_int pa_nil)))
      (pss_cons (ps_ret (pv 3)) pss_nil))))), ?_⟩
    have c0 : Chg ([] : List Addr) H0 H0 := Chg.refl H0
    unfold Mi.m_l_report at hm
    refine q_asg ?_
    refine w_call ?_
    obtain ⟨u3, F4, r5, su6, kx7, ku8⟩ := itm_tup (n := 2) (atS (atS at0)) r1
    refine w_args (va_cons (val_divc (val_var rfl) val_c ⟨by decide, by decide⟩) (va_cons (ku8 (val_var rfl) val_c) va_nil)) ?_
    obtain ⟨q9, hq9, hm⟩ := Mi.bnd hm
    refine ⟨(d0 / (2 : Int)), u3, F4, d1.2.2.1, q9, rfl, r5, hq9, fun v12 H11 F14 c10 r13 fr15  => ?_⟩
    have d16 : Dj F1 F14 := Ty.fresh r1 fr15
    have n17 : ∀ a ∈ F14, H0 a = none := fun a h => c0.dom a (fr15 a h)
    have r1 := Ty.ex r1 c10
    have c0 := c0.trans c10.none
    refine g_name (σ' := [some (.int d0), some v1, some v12, none]) rfl ?_
    refine q_if (ans_t (val_eqI (val_modc (val_int (val_var rfl)) val_c (by decide)) val_c)) (fun hb => ?_) (fun hb => ?_)
    ·
      replace hm := Mi.ifT hb hm
      refine q_ret ?_
      refine w_makeK ?_
      refine w_cons ?_
      obtain ⟨u18, F19, r20, su21, kx22, ku23⟩ := itm_tup (n := 0) at0 r1
      obtain ⟨rfl, rfl⟩ := r20
      refine c_val (ku23 (val_var rfl) val_c) ?_
      refine w_cons ?_
      obtain ⟨u24, F25, r26, su27, kx28, ku29⟩ := itm_tup (n := 1) (atS at0) r1
      obtain ⟨rfl, rfl⟩ := r26
      refine c_val (ku29 (val_var rfl) val_c) ?_
      refine w_cons ?_
      refine w_cb ?_
      refine w_args (va_cons (val_var rfl) va_nil) ?_
      refine w_tupleL r13 fun v30 H31 c32 r33 => ?_
      have r1 := Ty.ex r1 c32
      have r13 := Ty.ex r13 c32
      have c0 := c0.trans c32.none
      refine w_nil ?_
      obtain ⟨u34, F35, r36, su37, kx38, ku39⟩ := itm_tup (n := 3) (atS (atS (atS at0))) r1
      obtain ⟨rfl, rfl⟩ := r36
      obtain ⟨u40, F41, r42, su43, kx44, ku45⟩ := itm_tup (n := 4) (atS (atS (atS (atS at1)))) r1
      obtain ⟨rfl, rfl⟩ := r42
      refine w_args (va_cons (ku39 (val_var rfl) val_c) (va_cons (ku45 (val_var rfl) val_c) va_nil)) ?_
      refine ⟨rfl, rfl, ?_⟩
      intro p46 dx47 nx48 ndx49 nex50
      have d51 : Dj F1 [p46] := Ty.nin r1 nx48
      have d52 : Dj F14 [p46] := Ty.nin r13 nx48
      have n53 : ∀ a ∈ [p46], H0 a = none := one_fresh (c0.dom p46 nx48)
      obtain ⟨c54, r55⟩ := make_new (K := K) (C := C_Report) nx48 ndx49 nex50
      have r1 := Ty.ex r1 c54
      have r13 := Ty.ex r13 c54
      have r33 := Ty.fz r33 c54
      have c0 := c0.trans c54.none
      obtain ⟨q56, hq56, hm⟩ := Mi.bnd hm
      refine Or.inr (⟨p46, dx47, d1.1, d1.2.1, v30, q9, d1.2.2.2.1, d1.2.2.2.2, q56, rfl, r55, r33, hq56, fun H58 c57 r59 => ⟨rfl, ?_⟩⟩)
      have r1 := Ty.chg r1 c57 d51
      have r13 := Ty.chg r13 c57 d52
      have c0 := c0.join c57 (fun a h => .inr (n53 a h))
      obtain rfl := Option.some.inj hm
      exact hQ _ _ c0 r59 
    replace hm := Mi.ifF hb hm
    refine w_fall ?_
    refine q_asg ?_
    refine w_makeK ?_
    obtain ⟨u60, F61, r62, su63, kx64, ku65⟩ := itm_tup (n := 0) at0 r1
    obtain ⟨rfl, rfl⟩ := r62
    obtain ⟨u66, F67, r68, su69, kx70, ku71⟩ := itm_tup (n := 1) (atS at0) r1
    obtain ⟨rfl, rfl⟩ := r68
    refine w_args (va_cons (ku65 (val_var rfl) val_c) (va_cons (ku71 (val_var rfl) val_c) (va_cons (val_var rfl) va_nil))) ?_
    obtain ⟨u72, F73, r74, su75, kx76, ku77⟩ := itm_tup (n := 3) (atS (atS (atS at0))) r1
    obtain ⟨rfl, rfl⟩ := r74
    obtain ⟨u78, F79, r80, su81, kx82, ku83⟩ := itm_tup (n := 4) (atS (atS (atS (atS at1)))) r1
    obtain ⟨rfl, rfl⟩ := r80
    refine w_args (va_cons (ku77 (val_var rfl) val_c) (va_cons (ku83 (val_var rfl) val_c) va_nil)) ?_
    refine ⟨rfl, rfl, ?_⟩
    intro p84 dx85 nx86 ndx87 nex88
    have d89 : Dj F1 [p84] := Ty.nin r1 nx86
    have d90 : Dj F14 [p84] := Ty.nin r13 nx86
    have n91 : ∀ a ∈ [p84], H0 a = none := one_fresh (c0.dom p84 nx86)
    obtain ⟨c92, r93⟩ := make_new (K := K) (C := C_Report) nx86 ndx87 nex88
    have r1 := Ty.ex r1 c92
    have r13 := Ty.ex r13 c92
    have c0 := c0.trans c92.none
    obtain ⟨q94, hq94, hm⟩ := Mi.bnd hm
    refine Or.inl ⟨p84, dx85, d1.1, d1.2.1, v12, F14, q9, d1.2.2.2.1, d1.2.2.2.2, q94, rfl, r93, r13, d90.symm, hq94, fun H96 c95 r97 => ⟨rfl, ?_⟩⟩
    have r1 := Ty.chg r1 c95 d89
    have r13 := Ty.chg r13 c95 d90
    have c0 := c0.join c95 (fun a h => .inr (n91 a h))
    refine g_name (σ' := [some (.int d0), some v1, some v12, some (.ref p84)]) rfl ?_
    refine q_drop (w_bm (c_val (val_var rfl) ⟨tyv_lst r13, ?_⟩))
    refine w_args (va_cons val_c va_nil) ?_
    obtain ⟨x98, hx98, hm⟩ := Mi.bnd hm
    refine m_app r13 yInt_i hx98 fun H100 c99 r13 => ?_
    have r1 := Ty.chg r1 c99 d16
    have r97 := Ty.fz r97 c99
    have c0 := c0.join c99 (fun a h => .inr (n17 a h))
    refine q_drop (w_bm (c_val (val_var rfl) ⟨tyv_lst r13, ?_⟩))
    refine w_args (va_cons val_c va_nil) ?_
    obtain ⟨x101, hx101, hm⟩ := Mi.bnd hm
    refine m_app r13 yInt_i hx101 fun H103 c102 r13 => ?_
    have r1 := Ty.chg r1 c102 d16
    have r97 := Ty.fz r97 c102
    have c0 := c0.join c102 (fun a h => .inr (n17 a h))
    refine q_ret ?_
    refine c_val (val_var rfl) ?_
    obtain rfl := Option.some.inj hm
    exact hQ _ _ c0 r97 
abbrev s_l_keeps : Stmt := topS 42
abbrev N_l_keeps : List Str := ["_law_report_here", "_law_note", "_law_place"]
theorem sc_l_keeps : FnScope ["_law_report_here", "_law_note", "_law_place"] ["_law_report_here", "_law_note"] (defScope s_l_keeps) := ⟨rfl, rfl, rfl, by decide +kernel, rfl, by decide +kernel, by decide +kernel⟩
def sp_l_keeps (K : PySem.W.Frag) (C_Report : Addr) : Sp := fun vs H Q _ => ∃ (v0 : V) (d0 : (Int × Int × (List Int) × Int × Bool)) (v1 : V) (F1 : List Addr) (d1 : (Int × Int × (List Int) × Int × Bool)) (r : Bool), vs = [v0, v1] ∧ (yObj C_Report nm_Report ty_Report).rep K H [] v0 d0 ∧ (yTup (sCons yInt (sCons yInt (sCons (yLst yInt) (sCons yInt (sOne yBool)))))).rep K H F1 v1 d1 ∧ Mi.m_l_keeps d0 d1 = some r ∧ ∀ H', Chg ([]) H H' → Q (.bl r) H'
theorem ok_l_keeps (B : Bi mg) (CN : Cs K mg) (D : Dfn K mg "_law_keeps" s_l_keeps) {C_Report : Addr} (T_Report : Tx K mg C_Report "Report" nm_Report) (M_Report_allows : CalM P w K mg C_Report "allows" ["self", "place"] 1 (sp_Report_allows K C_Report)) (C_l_int : Cal P w K mg "_law_int" ["_law_x"] 1 (sp_l_int K)) (C_l_flag : Cal P w K mg "_law_flag" ["_law_told", "_law_due"] 1 (sp_l_flag K)) : Cal P w K mg "_law_keeps" ["_law_report_here", "_law_note"] 2 (sp_l_keeps K C_Report) := by
  obtain ⟨f, fd, F, g⟩ := D.ex
  refine ⟨f, fd, g, F.kp, bindsF F (fun _ _ _ _ _ _ us hl => match us, hl with | [_, _], _ => rfl), fun base => F.ok sc_l_keeps (fun vs H Q E h => ?_) (fun cdv A outer s H0 vs Q E hr h => ?_)⟩
  · obtain ⟨v0, d0, v1, F1, d1, r, rfl, r0, r1, hm, hQ⟩ := h; rfl
  ·
    obtain ⟨v0, d0, v1, F1, d1, r, rfl, r0, r1, hm, hQ⟩ := h
    obtain ⟨fM_Report_allows, fdM_Report_allows, hM_Report_allows, bM_Report_allows, OM_Report_allows⟩ := M_Report_allows.ex
    refine ⟨_, pss_cons (ps_if (PW.pt (pw_or (pt_not (pt_val (pe_cc C_l_int hr (pa_cons (pe_fldk (K := K) (pv 0) (by rfl)) pa_nil)))) (pw_or (pt_not (pt_val (pe_cc C_l_int hr (pa_cons (pe_fldk (K := K) (pv 0) (by rfl)) pa_nil)))) (pw_or1 (pt_not (pt_val (pe_cc C_l_int hr (pa_cons (pe_fldk (K := K) (pv 0) (by rfl)) pa_nil)))))))) (pss_cons (ps_ret pe_bl) pss_nil) (pss_nil))
      (pss_cons (ps_if (PW.pt (pw_or (pt_not (pt_val (pe_callB (cl_isi (K := K)) (by rfl) B.isinstance (by decide +kernel) (pa_cons (pe_fldk (K := K) (pv 0) (by rfl)) (pa_cons (pe_bltn (v := .ty "tuple") (by rfl) B.tuple (by decide +kernel) rfl) pa_nil))))) (pw_or1 (pt_cmpR op_gt (pe_callB (cl_len (K := K)) (by rfl) B.len PySem.boot_len (pa_cons (pe_lc (own := [("_law_place", 2)]) rfl sc_l_keeps.nd (pi_tup (pe_fldk (K := K) (pv 0) (by rfl))) (blkOk_by (own := [("_law_place", 2)]) (N := N_l_keeps) (sc := defScope s_l_keeps) (by decide +kernel)) (fun _ _ _ _ _ => (pg_name (i := 2) sc_l_keeps.nd rfl (.inl rfl))) (fun _ _ _ _ _ => (pts_one (pt_not (pt_val (pe_cc C_l_int hr (pa_cons (pv 2) pa_nil)))))) (fun _ _ _ _ _ => (pv 2))) pa_nil)) pe_int (nomark _))))) (pss_cons (ps_ret pe_bl) pss_nil) (pss_nil))
      (pss_cons (ps_if (pt_cmpR (op_ne_d hr.units) (pe_tup (pa_cons (pe_fldk (K := K) (pv 0) (by rfl)) (pa_cons (pe_fldk (K := K) (pv 0) (by rfl)) (pa_cons (pe_callTy (cl_list (K := K)) (by rfl) B.list (by decide +kernel) (pa_cons (pe_fldk (K := K) (pv 0) (by rfl)) pa_nil)) (pa_cons (pe_fldk (K := K) (pv 0) (by rfl)) pa_nil))))) (pe_tup (pa_cons (pe_ix (ix_t (K := K)) (pv 1) pe_int (fun _ _ => rfl)) (pa_cons (pe_ix (ix_t (K := K)) (pv 1) pe_int (fun _ _ => rfl)) (pa_cons (pe_ix (ix_t (K := K)) (pv 1) pe_int (fun _ _ => rfl)) (pa_cons (pe_ix (ix_t (K := K)) (pv 1) pe_int (fun _ _ => rfl)) pa_nil))))) (nomark _)) (pss_cons (ps_ret pe_bl) pss_nil) (pss_nil))
      (pss_cons (ps_if (pt_not (pt_val (pe_cc C_l_flag hr (pa_cons (pe_fldk (K := K) (pv 0) (by rfl)) (pa_cons (pe_ix (ix_t (K := K)) (pv 1) pe_int (fun _ _ => rfl)) pa_nil))))) (pss_cons (ps_ret pe_bl) pss_nil) (pss_nil))
      (pss_cons (ps_for PassesOwn.never rfl (pi_range1 (by rfl) B.range (pa_cons pe_int pa_nil)) (pg_name (i := 2) sc_l_keeps.nd rfl (.inl rfl)) (pss_cons (ps_if (pt_not (pt_val (pe_cc C_l_flag hr (pa_cons (pe_meth (pv 0) T_Report.cls hM_Report_allows (OM_Report_allows base) (hr.mono (by decide)) (fun s us _ hl => by rw [List.append_nil] at hl ⊢; exact bM_Report_allows s us hl) .nil pass0 (pa_cons (pv 2) pa_nil)) (pa_cons (pe_cmpR op_eq (pe_cmpR (op_in_q (K := K)) (pv 2) (pe_ix (ix_t (K := K)) (pv 1) pe_int (fun _ _ => rfl)) (by rfl)) (pe_ix (ix_t (K := K)) (pv 1) pe_int (fun _ _ => rfl)) (nomark _)) pa_nil))))) (pss_cons (ps_ret pe_bl) pss_nil) (pss_nil))
      (pss_nil)))
      (pss_cons (ps_ret pe_bl) pss_nil))))), ?_⟩
    have c0 : Chg ([] : List Addr) H0 H0 := Chg.refl H0
    unfold Mi.m_l_keeps at hm
    refine q_ifS ?_
    obtain ⟨b3, hb3, hm⟩ := Mi.bnd hm
    refine j_tt b3 (R := fun H' => Chg ([] : List Addr) H0 H' ∧ (yObj C_Report nm_Report ty_Report).rep K H' [] v0 d0 ∧ (yTup (sCons yInt (sCons yInt (sCons (yLst yInt) (sCons yInt (sOne yBool)))))).rep K H' F1 v1 d1) (fun Q' kq => ?_) (fun H' hj => ?_)
    ·
      refine w_or ?_
      refine w_not ?_
      refine w_B ?_
      refine w_call ?_
      obtain ⟨u4, r5, kx6, ku7⟩ := fld_obj (n := 0) (f := "ship") at0 (by decide +kernel) rfl T_Report.cls (T_Report.na "ship" (by decide +kernel)) r0
      obtain ⟨_, rfl⟩ := r5
      refine w_args (va_cons (ku7 (val_var rfl)) va_nil) ?_
      obtain ⟨q8, hq8, hb3⟩ := Mi.bnd hb3
      refine Or.inl ⟨d0.1, q8, rfl, hq8, fun H10 c9  => ?_⟩
      have r0 := Ty.fz r0 c9
      have r1 := Ty.ex r1 c9
      have c0 := c0.trans c9.none
      refine ⟨_, rfl, ?_⟩
      refine c_if (fun hb => ?_) (fun hb => ?_)
      ·
        replace hb3 := Mi.ifT hb hb3
        obtain rfl := Option.some.inj hb3
        exact kq _ ⟨c0, r0, r1⟩
      replace hb3 := Mi.ifF hb hb3
      refine w_or ?_
      refine w_not ?_
      refine w_B ?_
      refine w_call ?_
      obtain ⟨u11, r12, kx13, ku14⟩ := fld_obj (n := 1) (f := "hour") (atS at0) (by decide +kernel) rfl T_Report.cls (T_Report.na "hour" (by decide +kernel)) r0
      obtain ⟨_, rfl⟩ := r12
      refine w_args (va_cons (ku14 (val_var rfl)) va_nil) ?_
      obtain ⟨q15, hq15, hb3⟩ := Mi.bnd hb3
      refine Or.inl ⟨d0.2.1, q15, rfl, hq15, fun H17 c16  => ?_⟩
      have r0 := Ty.fz r0 c16
      have r1 := Ty.ex r1 c16
      have c0 := c0.trans c16.none
      refine ⟨_, rfl, ?_⟩
      refine c_if (fun hb => ?_) (fun hb => ?_)
      ·
        replace hb3 := Mi.ifT hb hb3
        obtain rfl := Option.some.inj hb3
        exact kq _ ⟨c0, r0, r1⟩
      replace hb3 := Mi.ifF hb hb3
      refine w_not ?_
      refine w_B ?_
      refine w_call ?_
      obtain ⟨u18, r19, kx20, ku21⟩ := fld_obj (n := 3) (f := "weight") (atS (atS (atS at0))) (by decide +kernel) rfl T_Report.cls (T_Report.na "weight" (by decide +kernel)) r0
      obtain ⟨_, rfl⟩ := r19
      refine w_args (va_cons (ku21 (val_var rfl)) va_nil) ?_
      obtain ⟨q22, hq22, hb3⟩ := Mi.bnd hb3
      refine Or.inl ⟨d0.2.2.2.1, q22, rfl, hq22, fun H24 c23  => ?_⟩
      have r0 := Ty.fz r0 c23
      have r1 := Ty.ex r1 c23
      have c0 := c0.trans c23.none
      refine ⟨_, rfl, ?_⟩
      obtain rfl := Option.some.inj hb3
      exact kq _ ⟨c0, r0, r1⟩
    obtain ⟨c0, r0, r1⟩ := hj
    refine c_if (fun hb => ?_) (fun hb => ?_)
    ·
      replace hm := Mi.ifT hb hm
      refine q_ret ?_
      refine c_val val_c ?_
      obtain rfl := Option.some.inj hm
      exact hQ _ c0 
    replace hm := Mi.ifF hb hm
    refine w_fall ?_
    refine q_ifS ?_
    obtain ⟨b25, hb25, hm⟩ := Mi.bnd hm
    refine j_tt b25 (R := fun H' => Chg ([] : List Addr) H0 H' ∧ (yObj C_Report nm_Report ty_Report).rep K H' [] v0 d0 ∧ (yTup (sCons yInt (sCons yInt (sCons (yLst yInt) (sCons yInt (sOne yBool)))))).rep K H' F1 v1 d1) (fun Q' kq => ?_) (fun H' hj => ?_)
    ·
      refine w_or ?_
      obtain ⟨u26, r27, kx28, ku29⟩ := fld_obj (n := 2) (f := "zone") (atS (atS at0)) (by decide +kernel) rfl T_Report.cls (T_Report.na "zone" (by decide +kernel)) r0
      refine c_ans (ans_N (ans_B (val_isi (ku29 (val_var rfl)) (ty_tupl r27) (n := "tuple") (m := "tuple") (b := true) (by decide +kernel)))) ?_
      refine c_if (fun hb => ?_) (fun hb => ?_)
      ·
        replace hb25 := Mi.ifT hb hb25
        obtain rfl := Option.some.inj hb25
        exact kq _ ⟨c0, r0, r1⟩
      replace hb25 := Mi.ifF hb hb25
      refine w_test ?_
      refine w_op ?_
      refine w_cb ?_
      refine w_cons ?_
      refine w_lc ?_
      refine w_iTup ?_
      obtain ⟨u30, r31, kx32, ku33⟩ := fld_obj (n := 2) (f := "zone") (atS (atS at0)) (by decide +kernel) rfl T_Report.cls (T_Report.na "zone" (by decide +kernel)) r0
      refine c_val (ku33 (val_var rfl)) ?_
      obtain ⟨e34, he34, hb25⟩ := Mi.bnd hb25
      refine kc_tup (K := K) (τ := yInt) r31 (fun D36 i H' => ∃ (s35 : (List Int)), Chg ([] : List Addr) H0 H' ∧ (yObj C_Report nm_Report ty_Report).rep K H' [] v0 d0 ∧ (yTup (sCons yInt (sCons yInt (sCons (yLst yInt) (sCons yInt (sOne yBool)))))).rep K H' F1 v1 d1 ∧ (yTupL yInt).rep K H' [] u30 d0.2.2.1 ∧ (yLst yInt).rep K H' [D36] (.ref D36) s35 ∧ Dj F1 [D36] ∧ (∀ a ∈ [D36], H0 a = none) ∧ Mi.forN (Mi.m_l_keeps_b1) s35 (List.drop i d0.2.2.1) = some e34) (fun D36 H43 np42 c41 r37 => ⟨([] : (List Int)), c0.trans c41.none, (Ty.fz r0 c41), (Ty.ex r1 c41), (Ty.fz r31 c41), r37, Ty.nin r1 np42, one_fresh (c0.dom D36 np42), he34⟩) (fun D36 i H' hp => by obtain ⟨s35, c0, r0, r1, r31, r37, d38, n40, _⟩ := hp; exact r31) (fun D36 i46 x45 u48 H47 hx44 r49 hp => ?_) (fun D36 H' np42 hp => ?_)
      ·
        obtain ⟨s35, c0, r0, r1, r31, r37, d38, n40, hle34⟩ := hp
        obtain ⟨_, hbe34, hle34⟩ := Mi.forN_go hle34 hx44
        unfold Mi.m_l_keeps_b1 at hbe34
        obtain ⟨_, rfl⟩ := r49
        refine g_name (σ' := [some v0, some v1, some (.int x45)]) rfl ?_
        refine ⟨rfl, ?_⟩
        refine w_not ?_
        refine w_B ?_
        refine w_call ?_
        refine w_args (va_cons (val_var rfl) va_nil) ?_
        obtain ⟨q54, hq54, hbe34⟩ := Mi.bnd hbe34
        refine Or.inl ⟨x45, q54, rfl, hq54, fun H56 c55  => ?_⟩
        have r0 := Ty.fz r0 c55
        have r1 := Ty.ex r1 c55
        have r31 := Ty.fz r31 c55
        have r37 := Ty.ex r37 c55
        have c0 := c0.trans c55.none
        refine ⟨_, rfl, ?_⟩
        refine c_if (fun hb => ?_) (fun hb => ?_)
        ·
          replace hbe34 := Mi.ifT hb hbe34
          refine c_val (val_var rfl) ?_
          obtain ⟨x57, hx57, hbe34⟩ := Mi.bnd hbe34
          refine e_app r37 yInt_i hx57 fun H59 c58 r37 => ?_
          have r0 := Ty.fz r0 c58
          have r1 := Ty.chg r1 c58 d38
          have r31 := Ty.fz r31 c58
          have c0 := c0.join c58 (fun a h => .inr (n40 a h))
          obtain rfl := Option.some.inj hbe34
          exact ⟨x57, c0, r0, r1, r31, r37, d38, n40, hle34⟩
        ·
          replace hbe34 := Mi.ifF hb hbe34
          obtain rfl := Option.some.inj hbe34
          exact ⟨s35, c0, r0, r1, r31, r37, d38, n40, hle34⟩
      obtain ⟨s35, c0, r0, r1, r31, r37, d38, n40, hle34⟩ := hp
      obtain rfl := Mi.forN_end hle34
      refine w_nil ?_
      refine w_lenL r37 ?_
      refine c_val val_c ?_
      refine w_I0 ?_
      refine ⟨_, rfl, ?_⟩
      obtain rfl := Option.some.inj hb25
      exact kq _ ⟨c0, r0, r1⟩
    obtain ⟨c0, r0, r1⟩ := hj
    refine c_if (fun hb => ?_) (fun hb => ?_)
    ·
      replace hm := Mi.ifT hb hm
      refine q_ret ?_
      refine c_val val_c ?_
      obtain rfl := Option.some.inj hm
      exact hQ _ c0 
    replace hm := Mi.ifF hb hm
    refine w_fall ?_
    refine q_ifS ?_
    refine w_test ?_
    refine w_op ?_
    refine w_tup ?_
    refine w_cons ?_
    obtain ⟨u60, r61, kx62, ku63⟩ := fld_obj (n := 0) (f := "ship") at0 (by decide +kernel) rfl T_Report.cls (T_Report.na "ship" (by decide +kernel)) r0
    obtain ⟨_, rfl⟩ := r61
    refine c_val (ku63 (val_var rfl)) ?_
    refine w_cons ?_
    obtain ⟨u64, r65, kx66, ku67⟩ := fld_obj (n := 1) (f := "hour") (atS at0) (by decide +kernel) rfl T_Report.cls (T_Report.na "hour" (by decide +kernel)) r0
    obtain ⟨_, rfl⟩ := r65
    refine c_val (ku67 (val_var rfl)) ?_
    refine w_cons ?_
    refine w_cb ?_
    obtain ⟨u68, r69, kx70, ku71⟩ := fld_obj (n := 2) (f := "zone") (atS (atS at0)) (by decide +kernel) rfl T_Report.cls (T_Report.na "zone" (by decide +kernel)) r0
    refine w_args (va_cons (ku71 (val_var rfl)) va_nil) ?_
    refine w_listT r69 fun p72 H76 np75 c73 r74 => ?_
    have d77 : Dj F1 [p72] := Ty.nin r1 np75
    have n78 : ∀ a ∈ [p72], H0 a = none := one_fresh (c0.dom p72 np75)
    have r0 := Ty.fz r0 c73
    have r1 := Ty.ex r1 c73
    have r69 := Ty.fz r69 c73
    have c0 := c0.trans c73.none
    refine w_cons ?_
    obtain ⟨u79, r80, kx81, ku82⟩ := fld_obj (n := 3) (f := "weight") (atS (atS (atS at0))) (by decide +kernel) rfl T_Report.cls (T_Report.na "weight" (by decide +kernel)) r0
    obtain ⟨_, rfl⟩ := r80
    refine c_val (ku82 (val_var rfl)) ?_
    refine w_nil ?_
    refine e_tup (K := K) (ty := (sCons yInt (sCons yInt (sCons (yLst yInt) (sOne yInt))))) (F := ([] ++ ([] ++ ([p72] ++ [])))) (d := (d0.1, d0.2.1, d0.2.2.1, d0.2.2.2.1)) (by exact Nat.le_of_ble_eq_true rfl) ⟨_, _, _, _, rfl, rfl, yInt_i, ⟨_, _, _, _, rfl, rfl, yInt_i, ⟨_, _, _, _, rfl, rfl, r74, ⟨_, rfl, yInt_i⟩⟩⟩⟩ fun p83 H87 np86 c84 r85 => ?_
    have r0 := Ty.fz r0 c84
    have r1 := Ty.ex r1 c84
    have r74 := Ty.ex r74 c84
    have c0 := c0.trans c84.none
    have d88 : Dj ([] ++ ([] ++ ([p72] ++ []))) F1 := (Dj.app (Dj.nil) ((Dj.app (Dj.nil) ((Dj.app (d77.symm) (Dj.nil))))))
    refine w_tup ?_
    obtain ⟨u89, F90, r91, su92, kx93, ku94⟩ := itm_tup (n := 0) at0 r1
    obtain ⟨rfl, rfl⟩ := r91
    obtain ⟨u95, F96, r97, su98, kx99, ku100⟩ := itm_tup (n := 1) (atS at0) r1
    obtain ⟨rfl, rfl⟩ := r97
    obtain ⟨u101, F102, r103, su104, kx105, ku106⟩ := itm_tup (n := 2) (atS (atS at0)) r1
    have d107 : Dj F102 ([] ++ ([] ++ ([p72] ++ []))) := Dj.sub (d88.symm) su104
    obtain ⟨u108, F109, r110, su111, kx112, ku113⟩ := itm_tup (n := 3) (atS (atS (atS at0))) r1
    obtain ⟨rfl, rfl⟩ := r110
    refine w_args (va_cons (ku94 (val_var rfl) val_c) (va_cons (ku100 (val_var rfl) val_c) (va_cons (ku106 (val_var rfl) val_c) (va_cons (ku113 (val_var rfl) val_c) va_nil)))) ?_
    refine e_tup (K := K) (ty := (sCons yInt (sCons yInt (sCons (yLst yInt) (sOne yInt))))) (F := ([] ++ ([] ++ (F102 ++ [])))) (d := (d1.1, d1.2.1, d1.2.2.1, d1.2.2.2.1)) (by exact Nat.le_of_ble_eq_true rfl) ⟨_, _, _, _, rfl, rfl, yInt_i, ⟨_, _, _, _, rfl, rfl, yInt_i, ⟨_, _, _, _, rfl, rfl, r103, ⟨_, rfl, yInt_i⟩⟩⟩⟩ fun p114 H118 np117 c115 r116 => ?_
    have r0 := Ty.fz r0 c115
    have r1 := Ty.ex r1 c115
    have r85 := Ty.ex r85 c115
    have r103 := Ty.ex r103 c115
    have c0 := c0.trans c115.none
    have d119 : Dj ([] ++ ([] ++ (F102 ++ []))) ([] ++ ([] ++ ([p72] ++ []))) := (Dj.app (Dj.nil) ((Dj.app (Dj.nil) ((Dj.app (d107) (Dj.nil))))))
    refine w_neD (τ := (yTup (sCons yInt (sCons yInt (sCons (yLst yInt) (sOne yInt)))))) (dat_tup (sat_cons dat_int (sat_cons dat_int (sat_cons (dat_lst dat_int) (sat_one dat_int))))) r85 r116 ?_
    refine ⟨_, rfl, ?_⟩
    refine c_if (fun hb => ?_) (fun hb => ?_)
    ·
      replace hm := Mi.ifT hb hm
      refine q_ret ?_
      refine c_val val_c ?_
      obtain rfl := Option.some.inj hm
      exact hQ _ c0 
    replace hm := Mi.ifF hb hm
    refine w_fall ?_
    refine q_ifS ?_
    refine w_not ?_
    refine w_B ?_
    refine w_call ?_
    obtain ⟨u120, r121, kx122, ku123⟩ := fld_obj (n := 4) (f := "inside") (atS (atS (atS (atS at1)))) (by decide +kernel) rfl T_Report.cls (T_Report.na "inside" (by decide +kernel)) r0
    obtain ⟨_, rfl⟩ := r121
    obtain ⟨u124, F125, r126, su127, kx128, ku129⟩ := itm_tup (n := 4) (atS (atS (atS (atS at1)))) r1
    obtain ⟨rfl, rfl⟩ := r126
    refine w_args (va_cons (ku123 (val_var rfl)) (va_cons (ku129 (val_var rfl) val_c) va_nil)) ?_
    obtain ⟨q130, hq130, hm⟩ := Mi.bnd hm
    refine ⟨d0.2.2.2.2, d1.2.2.2.2, q130, rfl, hq130, fun H132 c131  => ?_⟩
    have r0 := Ty.fz r0 c131
    have r1 := Ty.ex r1 c131
    have c0 := c0.trans c131.none
    refine ⟨_, rfl, ?_⟩
    refine c_if (fun hb => ?_) (fun hb => ?_)
    ·
      replace hm := Mi.ifT hb hm
      refine q_ret ?_
      refine c_val val_c ?_
      obtain rfl := Option.some.inj hm
      exact hQ _ c0 
    replace hm := Mi.ifF hb hm
    refine w_fall ?_
    refine q_for ?_
    refine w_iRng1 ?_
    refine w_args (va_cons val_c va_nil) ?_
    obtain ⟨g133, hg133, hm⟩ := Mi.bnd hm
    obtain ⟨e134, he134, hm⟩ := Mi.bnd hm
    refine l_rng1 hg133 (fun i σ' H' => ∃ (s135 : Unit) (y136 : Option V), σ' = [some v0, some v1, y136] ∧ Chg ([] : List Addr) H0 H' ∧ (yObj C_Report nm_Report ty_Report).rep K H' [] v0 d0 ∧ (yTup (sCons yInt (sCons yInt (sCons (yLst yInt) (sCons yInt (sOne yBool)))))).rep K H' F1 v1 d1 ∧ Mi.forR (Mi.m_l_keeps_b2 d0 d1) s135 (List.drop i g133) = some e134) ⟨(), none, rfl, c0, r0, r1, he134⟩ (fun i139 x138 σ' H' hx137 hp => ?_) (fun σ' H' hp => ?_)
    ·
      obtain ⟨s135, y136, rfl, c0, r0, r1, hle134⟩ := hp
      obtain ⟨o140, hbe134, hore134⟩ := Mi.forR_go hle134 hx137
      unfold Mi.m_l_keeps_b2 at hbe134
      refine g_name (σ' := [some v0, some v1, some (.int x138)]) rfl ?_
      refine q_ifS ?_
      refine w_not ?_
      refine w_B ?_
      refine w_call ?_
      refine w_cons ?_
      refine w_meth ?_
      refine c_val (val_var rfl) ?_
      refine meth_obj r0 (by decide +kernel) ?_
      refine w_args (va_cons (val_var rfl) va_nil) ?_
      obtain ⟨q141, hq141, hbe134⟩ := Mi.bnd hbe134
      refine ⟨v0, d0, x138, q141, rfl, r0, hq141, fun H143 c142  => ?_⟩
      have r0 := Ty.fz r0 c142
      have r1 := Ty.ex r1 c142
      have c0 := c0.trans c142.none
      refine w_cons ?_
      obtain ⟨u144, F145, r146, su147, kx148, ku149⟩ := itm_tup (n := 2) (atS (atS at0)) r1
      obtain ⟨u150, F151, r152, su153, kx154, ku155⟩ := itm_tup (n := 4) (atS (atS (atS (atS at1)))) r1
      obtain ⟨rfl, rfl⟩ := r152
      refine c_val (val_eqB (val_inL r146 (val_var rfl) (ku149 (val_var rfl) val_c)) (ku155 (val_var rfl) val_c)) ?_
      refine w_nil ?_
      obtain ⟨q156, hq156, hbe134⟩ := Mi.bnd hbe134
      refine ⟨q141, (decide ((d1.2.2.1.contains x138) = d1.2.2.2.2)), q156, rfl, hq156, fun H158 c157  => ?_⟩
      have r0 := Ty.fz r0 c157
      have r1 := Ty.ex r1 c157
      have c0 := c0.trans c157.none
      refine ⟨_, rfl, ?_⟩
      refine c_if (fun hb => ?_) (fun hb => ?_)
      ·
        replace hbe134 := Mi.ifT hb hbe134
        refine q_ret ?_
        refine c_val val_c ?_
        obtain rfl := Option.some.inj hbe134
        obtain rfl := Mi.or_inl hore134
        obtain rfl := Option.some.inj (Mi.orR_inl hm)
        exact hQ _ c0 
      replace hbe134 := Mi.ifF hb hbe134
      refine w_fall ?_
      refine w_nextJ ?_
      obtain rfl := Option.some.inj hbe134
      replace hore134 := Mi.or_inr hore134
      exact ⟨_, (some (.int x138)), rfl, c0, r0, r1, hore134⟩
    obtain ⟨s135, y136, rfl, c0, r0, r1, hle134⟩ := hp
    obtain rfl := Mi.forR_end hle134
    replace hm := Mi.orR_inr hm
    refine q_ret ?_
    refine c_val val_c ?_
    obtain rfl := Option.some.inj hm
    exact hQ _ c0 
abbrev s_l_all_keep : Stmt := topS 43
abbrev N_l_all_keep : List Str := ["_law_handed", "_law_notes", "_law_k"]
theorem sc_l_all_keep : FnScope ["_law_handed", "_law_notes", "_law_k"] ["_law_handed", "_law_notes"] (defScope s_l_all_keep) := ⟨rfl, rfl, rfl, by decide +kernel, rfl, by decide +kernel, by decide +kernel⟩
def sp_l_all_keep (K : PySem.W.Frag) (C_Report : Addr) : Sp := fun vs H Q _ => ∃ (v0 : V) (F0 : List Addr) (d0 : (List (Int × Int × (List Int) × Int × Bool))) (v1 : V) (F1 : List Addr) (d1 : (List (Int × Int × (List Int) × Int × Bool))) (r : Bool), vs = [v0, v1] ∧ (yLst (yObj C_Report nm_Report ty_Report)).rep K H F0 v0 d0 ∧ (yLsg (yTup (sCons yInt (sCons yInt (sCons (yLst yInt) (sCons yInt (sOne yBool))))))).rep K H F1 v1 d1 ∧ Mi.m_l_all_keep d0 d1 = some r ∧ ∀ H', Chg ([]) H H' → Q (.bl r) H'
theorem ok_l_all_keep (B : Bi mg) (CN : Cs K mg) (D : Dfn K mg "_law_all_keep" s_l_all_keep) {C_Report : Addr} (T_Report : Tx K mg C_Report "Report" nm_Report) (C_l_keeps : Cal P w K mg "_law_keeps" ["_law_report_here", "_law_note"] 2 (sp_l_keeps K C_Report)) : Cal P w K mg "_law_all_keep" ["_law_handed", "_law_notes"] 3 (sp_l_all_keep K C_Report) := by
  obtain ⟨f, fd, F, g⟩ := D.ex
  refine ⟨f, fd, g, F.kp, bindsF F (fun _ _ _ _ _ _ us hl => match us, hl with | [_, _], _ => rfl), fun base => F.ok sc_l_all_keep (fun vs H Q E h => ?_) (fun cdv A outer s H0 vs Q E hr h => ?_)⟩
  · obtain ⟨v0, F0, d0, v1, F1, d1, r, rfl, r0, r1, hm, hQ⟩ := h; rfl
  ·
    obtain ⟨v0, F0, d0, v1, F1, d1, r, rfl, r0, r1, hm, hQ⟩ := h
    refine ⟨_, pss_cons (ps_if (pt_cmpR op_ne (pe_callB (cl_len (K := K)) (by rfl) B.len PySem.boot_len (pa_cons (pv 0) pa_nil)) (pe_callB (cl_len (K := K)) (by rfl) B.len PySem.boot_len (pa_cons (pv 1) pa_nil)) (nomark _)) (pss_cons (ps_ret pe_bl) pss_nil) (pss_nil))
      (pss_cons (ps_ret (pe_cmpR op_eq (pe_callB (cl_len (K := K)) (by rfl) B.len PySem.boot_len (pa_cons (pe_lc (own := [("_law_k", 2)]) rfl sc_l_all_keep.nd (pi_range1 (by rfl) B.range (pa_cons (pe_callB (cl_len (K := K)) (by rfl) B.len PySem.boot_len (pa_cons (pv 1) pa_nil)) pa_nil)) (blkOk_by (own := [("_law_k", 2)]) (N := N_l_all_keep) (sc := defScope s_l_all_keep) (by decide +kernel)) (fun _ _ _ _ _ => (pg_name (i := 2) sc_l_all_keep.nd rfl (.inl rfl))) (fun _ _ _ _ _ => (pts_one (pt_not (pt_val (pe_cc C_l_keeps hr (pa_cons (pe_ix (ix_l (K := K)) (pv 0) (pv 2) (fun _ _ => rfl)) (pa_cons (pe_ix (ix_l (K := K)) (pv 1) (pv 2) (fun _ _ => rfl)) pa_nil))))))) (fun _ _ _ _ _ => (pv 2))) pa_nil)) pe_int (nomark _))) pss_nil), ?_⟩
    have c0 : Chg ([] : List Addr) H0 H0 := Chg.refl H0
    unfold Mi.m_l_all_keep at hm
    refine q_if (ans_t (val_neI (val_lenL r0 (val_var rfl)) (val_lenG r1 (val_var rfl)))) (fun hb => ?_) (fun hb => ?_)
    ·
      replace hm := Mi.ifT hb hm
      refine q_ret ?_
      refine c_val val_c ?_
      obtain rfl := Option.some.inj hm
      exact hQ _ c0 
    replace hm := Mi.ifF hb hm
    refine w_fall ?_
    refine q_ret ?_
    refine w_op ?_
    refine w_cb ?_
    refine w_cons ?_
    refine w_lc ?_
    refine w_iRng1 ?_
    refine w_args (va_cons (val_lenG r1 (val_var rfl)) va_nil) ?_
    obtain ⟨g3, hg3, hm⟩ := Mi.bnd hm
    obtain ⟨e4, he4, hm⟩ := Mi.bnd hm
    refine kc_rng1 (K := K) (τ := yInt) hg3 (fun D6 i H' => ∃ (s5 : (List Int)), Chg ([] : List Addr) H0 H' ∧ (yLst (yObj C_Report nm_Report ty_Report)).rep K H' F0 v0 d0 ∧ (yLsg (yTup (sCons yInt (sCons yInt (sCons (yLst yInt) (sCons yInt (sOne yBool))))))).rep K H' F1 v1 d1 ∧ (yLst yInt).rep K H' [D6] (.ref D6) s5 ∧ Dj F0 [D6] ∧ Dj F1 [D6] ∧ (∀ a ∈ [D6], H0 a = none) ∧ Mi.forN (Mi.m_l_all_keep_b1 d0 d1) s5 (List.drop i g3) = some e4) (fun D6 H14 np13 c12 r7 => ⟨([] : (List Int)), c0.trans c12.none, (Ty.ex r0 c12), (Ty.ex r1 c12), r7, Ty.nin r0 np13, Ty.nin r1 np13, one_fresh (c0.dom D6 np13), he4⟩) (fun D6 i17 x16 H18 hx15 hp => ?_) (fun D6 H' np13 hp => ?_)
    ·
      obtain ⟨s5, c0, r0, r1, r7, d8, d9, n11, hle4⟩ := hp
      obtain ⟨_, hbe4, hle4⟩ := Mi.forN_go hle4 hx15
      unfold Mi.m_l_all_keep_b1 at hbe4
      refine g_name (σ' := [some v0, some v1, some (.int x16)]) rfl ?_
      refine ⟨rfl, ?_⟩
      refine w_not ?_
      refine w_B ?_
      refine w_call ?_
      obtain ⟨x25, hx25, hbe4⟩ := Mi.bnd hbe4
      obtain ⟨u26, r27, ku28⟩ := itm_L r0 hx25
      obtain ⟨x29, hx29, hbe4⟩ := Mi.bnd hbe4
      obtain ⟨u30, F31, r32, su33, ap34, kx35, ku36⟩ := itm_G r1 hx29
      have d37 : Dj F31 [D6] := Dj.sub (d9) su33
      refine w_args (va_cons (ku28 (val_var rfl) (val_var rfl)) (va_cons (ku36 (val_var rfl) (val_var rfl)) va_nil)) ?_
      obtain ⟨q38, hq38, hbe4⟩ := Mi.bnd hbe4
      refine ⟨u26, x25, u30, F31, x29, q38, rfl, r27, r32, hq38, fun H40 c39  => ?_⟩
      have r0 := Ty.ex r0 c39
      have r1 := Ty.ex r1 c39
      have r7 := Ty.ex r7 c39
      have c0 := c0.trans c39.none
      refine ⟨_, rfl, ?_⟩
      refine c_if (fun hb => ?_) (fun hb => ?_)
      ·
        replace hbe4 := Mi.ifT hb hbe4
        refine c_val (val_var rfl) ?_
        obtain ⟨x41, hx41, hbe4⟩ := Mi.bnd hbe4
        refine e_app r7 yInt_i hx41 fun H43 c42 r7 => ?_
        have r0 := Ty.chg r0 c42 d8
        have r1 := Ty.chg r1 c42 d9
        have c0 := c0.join c42 (fun a h => .inr (n11 a h))
        obtain rfl := Option.some.inj hbe4
        exact ⟨x41, c0, r0, r1, r7, d8, d9, n11, hle4⟩
      ·
        replace hbe4 := Mi.ifF hb hbe4
        obtain rfl := Option.some.inj hbe4
        exact ⟨s5, c0, r0, r1, r7, d8, d9, n11, hle4⟩
    obtain ⟨s5, c0, r0, r1, r7, d8, d9, n11, hle4⟩ := hp
    obtain rfl := Mi.forN_end hle4
    refine w_nil ?_
    refine w_lenL r7 ?_
    refine c_val val_c ?_
    refine w_eqI ?_
    obtain rfl := Option.some.inj hm
    exact hQ _ c0 
abbrev s_l_is_zone : Stmt := topS 44
abbrev N_l_is_zone : List Str := ["_law_told", "_law_due", "_law_spot"]
theorem sc_l_is_zone : FnScope ["_law_told", "_law_due", "_law_spot"] ["_law_told", "_law_due"] (defScope s_l_is_zone) := ⟨rfl, rfl, rfl, by decide +kernel, rfl, by decide +kernel, by decide +kernel⟩
def sp_l_is_zone (K : PySem.W.Frag) : Sp := fun vs H Q _ => ∃ (v0 : V) (F0 : List Addr) (d0 : (List Int)) (v1 : V) (F1 : List Addr) (d1 : (List Int)) (r : Bool), vs = [v0, v1] ∧ (yLst yInt).rep K H F0 v0 d0 ∧ (yLst yInt).rep K H F1 v1 d1 ∧ Mi.m_l_is_zone d0 d1 = some r ∧ ∀ H', Chg ([]) H H' → Q (.bl r) H'
theorem ok_l_is_zone (B : Bi mg) (CN : Cs K mg) (D : Dfn K mg "_law_is_zone" s_l_is_zone) (C_l_int : Cal P w K mg "_law_int" ["_law_x"] 1 (sp_l_int K)) : Cal P w K mg "_law_is_zone" ["_law_told", "_law_due"] 2 (sp_l_is_zone K) := by
  obtain ⟨f, fd, F, g⟩ := D.ex
  refine ⟨f, fd, g, F.kp, bindsF F (fun _ _ _ _ _ _ us hl => match us, hl with | [_, _], _ => rfl), fun base => F.ok sc_l_is_zone (fun vs H Q E h => ?_) (fun cdv A outer s H0 vs Q E hr h => ?_)⟩
  · obtain ⟨v0, F0, d0, v1, F1, d1, r, rfl, r0, r1, hm, hQ⟩ := h; rfl
  ·
    obtain ⟨v0, F0, d0, v1, F1, d1, r, rfl, r0, r1, hm, hQ⟩ := h
    refine ⟨_, pss_cons (ps_ret (pe_and (pe_callB (cl_isi (K := K)) (by rfl) B.isinstance (by decide +kernel) (pa_cons (pv 0) (pa_cons (pe_bltn (v := .ty "list") (by rfl) B.list (by decide +kernel) rfl) pa_nil))) (pe_and (pe_cmpR op_eq (pe_callB (cl_len (K := K)) (by rfl) B.len PySem.boot_len (pa_cons (pe_lc (own := [("_law_spot", 2)]) rfl sc_l_is_zone.nd (pi_list (pv 0)) (blkOk_by (own := [("_law_spot", 2)]) (N := N_l_is_zone) (sc := defScope s_l_is_zone) (by decide +kernel)) (fun _ _ _ _ _ => (pg_name (i := 2) sc_l_is_zone.nd rfl (.inl rfl))) (fun _ _ _ _ _ => (pts_one (pt_not (pt_val (pe_cc C_l_int hr (pa_cons (pv 2) pa_nil)))))) (fun _ _ _ _ _ => (pv 2))) pa_nil)) pe_int (nomark _)) (pe_one (pe_cmpR (op_eq_d hr.units) (pv 0) (pv 1) (nomark _)))))) pss_nil, ?_⟩
    have c0 : Chg ([] : List Addr) H0 H0 := Chg.refl H0
    unfold Mi.m_l_is_zone at hm
    refine q_ret ?_
    obtain ⟨b3, hb3, hm⟩ := Mi.bnd hm
    refine j_te (.bl b3) (R := fun H' => Chg ([] : List Addr) H0 H' ∧ (yLst yInt).rep K H' F0 v0 d0 ∧ (yLst yInt).rep K H' F1 v1 d1) (fun Q' kq => ?_) (fun H' hj => ?_)
    ·
      refine w_andV ?_
      refine c_val (val_isi (val_var rfl) (ty_lst r0) (n := "list") (m := "list") (b := true) (by decide +kernel)) ?_
      refine ⟨_, rfl, ?_⟩
      refine c_if (fun hb => ?_) (fun hb => ?_)
      rotate_left
      ·
        replace hb3 := Mi.ifF hb hb3
        obtain rfl := Option.some.inj hb3
        exact kq _ ⟨c0, r0, r1⟩
      replace hb3 := Mi.ifT hb hb3
      refine w_andV ?_
      refine w_op ?_
      refine w_cb ?_
      refine w_cons ?_
      refine w_lc ?_
      refine w_iList ?_
      refine c_val (val_var rfl) ?_
      obtain ⟨e4, he4, hb3⟩ := Mi.bnd hb3
      refine kc_lst (K := K) (τ := yInt) r0 (fun D6 i H' => ∃ (s5 : (List Int)), Chg ([] : List Addr) H0 H' ∧ (yLst yInt).rep K H' F0 v0 d0 ∧ (yLst yInt).rep K H' F1 v1 d1 ∧ (yLst yInt).rep K H' [D6] (.ref D6) s5 ∧ Dj F0 [D6] ∧ Dj F1 [D6] ∧ (∀ a ∈ [D6], H0 a = none) ∧ Mi.forN (Mi.m_l_is_zone_b1) s5 (List.drop i d0) = some e4) (fun D6 H14 np13 c12 r7 => ⟨([] : (List Int)), c0.trans c12.none, (Ty.ex r0 c12), (Ty.ex r1 c12), r7, Ty.nin r0 np13, Ty.nin r1 np13, one_fresh (c0.dom D6 np13), he4⟩) (fun D6 i H' hp => by obtain ⟨s5, c0, r0, r1, r7, d8, d9, n11, _⟩ := hp; exact r0) (fun D6 i17 x16 u19 H18 hx15 r20 hp => ?_) (fun D6 H' np13 hp => ?_)
      ·
        obtain ⟨s5, c0, r0, r1, r7, d8, d9, n11, hle4⟩ := hp
        obtain ⟨_, hbe4, hle4⟩ := Mi.forN_go hle4 hx15
        unfold Mi.m_l_is_zone_b1 at hbe4
        obtain ⟨_, rfl⟩ := r20
        refine g_name (σ' := [some v0, some v1, some (.int x16)]) rfl ?_
        refine ⟨rfl, ?_⟩
        refine w_not ?_
        refine w_B ?_
        refine w_call ?_
        refine w_args (va_cons (val_var rfl) va_nil) ?_
        obtain ⟨q25, hq25, hbe4⟩ := Mi.bnd hbe4
        refine Or.inl ⟨x16, q25, rfl, hq25, fun H27 c26  => ?_⟩
        have r0 := Ty.ex r0 c26
        have r1 := Ty.ex r1 c26
        have r7 := Ty.ex r7 c26
        have c0 := c0.trans c26.none
        refine ⟨_, rfl, ?_⟩
        refine c_if (fun hb => ?_) (fun hb => ?_)
        ·
          replace hbe4 := Mi.ifT hb hbe4
          refine c_val (val_var rfl) ?_
          obtain ⟨x28, hx28, hbe4⟩ := Mi.bnd hbe4
          refine e_app r7 yInt_i hx28 fun H30 c29 r7 => ?_
          have r0 := Ty.chg r0 c29 d8
          have r1 := Ty.chg r1 c29 d9
          have c0 := c0.join c29 (fun a h => .inr (n11 a h))
          obtain rfl := Option.some.inj hbe4
          exact ⟨x28, c0, r0, r1, r7, d8, d9, n11, hle4⟩
        ·
          replace hbe4 := Mi.ifF hb hbe4
          obtain rfl := Option.some.inj hbe4
          exact ⟨s5, c0, r0, r1, r7, d8, d9, n11, hle4⟩
      obtain ⟨s5, c0, r0, r1, r7, d8, d9, n11, hle4⟩ := hp
      obtain rfl := Mi.forN_end hle4
      refine w_nil ?_
      refine w_lenL r7 ?_
      refine c_val val_c ?_
      refine w_eqI ?_
      refine ⟨_, rfl, ?_⟩
      refine c_if (fun hb => ?_) (fun hb => ?_)
      rotate_left
      ·
        replace hb3 := Mi.ifF hb hb3
        obtain rfl := Option.some.inj hb3
        exact kq _ ⟨c0, r0, r1⟩
      replace hb3 := Mi.ifT hb hb3
      refine w_op ?_
      refine c_val (val_var rfl) ?_
      refine c_val (val_var rfl) ?_
      refine w_eqD (τ := (yLst yInt)) (dat_lst dat_int) r0 r1 ?_
      obtain rfl := Option.some.inj hb3
      exact kq _ ⟨c0, r0, r1⟩
    obtain ⟨c0, r0, r1⟩ := hj
    obtain rfl := Option.some.inj hm
    exact hQ _ c0 
abbrev s_l_are_zones : Stmt := topS 45
abbrev N_l_are_zones : List Str := ["_law_told", "_law_due", "_law_k"]
theorem sc_l_are_zones : FnScope ["_law_told", "_law_due", "_law_k"] ["_law_told", "_law_due"] (defScope s_l_are_zones) := ⟨rfl, rfl, rfl, by decide +kernel, rfl, by decide +kernel, by decide +kernel⟩
def sp_l_are_zones (K : PySem.W.Frag) : Sp := fun vs H Q _ => ∃ (v0 : V) (F0 : List Addr) (d0 : (List (List Int))) (v1 : V) (F1 : List Addr) (d1 : (List (List Int))) (r : Bool), vs = [v0, v1] ∧ (yLsg (yLst yInt)).rep K H F0 v0 d0 ∧ (yLsg (yLst yInt)).rep K H F1 v1 d1 ∧ Mi.m_l_are_zones d0 d1 = some r ∧ ∀ H', Chg ([]) H H' → Q (.bl r) H'
theorem ok_l_are_zones (B : Bi mg) (CN : Cs K mg) (D : Dfn K mg "_law_are_zones" s_l_are_zones) (C_l_is_zone : Cal P w K mg "_law_is_zone" ["_law_told", "_law_due"] 2 (sp_l_is_zone K)) : Cal P w K mg "_law_are_zones" ["_law_told", "_law_due"] 3 (sp_l_are_zones K) := by
  obtain ⟨f, fd, F, g⟩ := D.ex
  refine ⟨f, fd, g, F.kp, bindsF F (fun _ _ _ _ _ _ us hl => match us, hl with | [_, _], _ => rfl), fun base => F.ok sc_l_are_zones (fun vs H Q E h => ?_) (fun cdv A outer s H0 vs Q E hr h => ?_)⟩
  · obtain ⟨v0, F0, d0, v1, F1, d1, r, rfl, r0, r1, hm, hQ⟩ := h; rfl
  ·
    obtain ⟨v0, F0, d0, v1, F1, d1, r, rfl, r0, r1, hm, hQ⟩ := h
    refine ⟨_, pss_cons (ps_if (PW.pt (pw_or (pt_not (pt_val (pe_callB (cl_isi (K := K)) (by rfl) B.isinstance (by decide +kernel) (pa_cons (pv 0) (pa_cons (pe_bltn (v := .ty "list") (by rfl) B.list (by decide +kernel) rfl) pa_nil))))) (pw_or1 (pt_cmpR op_ne (pe_callB (cl_len (K := K)) (by rfl) B.len PySem.boot_len (pa_cons (pv 0) pa_nil)) (pe_callB (cl_len (K := K)) (by rfl) B.len PySem.boot_len (pa_cons (pv 1) pa_nil)) (nomark _))))) (pss_cons (ps_ret pe_bl) pss_nil) (pss_nil))
      (pss_cons (ps_ret (pe_cmpR op_eq (pe_callB (cl_len (K := K)) (by rfl) B.len PySem.boot_len (pa_cons (pe_lc (own := [("_law_k", 2)]) rfl sc_l_are_zones.nd (pi_range1 (by rfl) B.range (pa_cons (pe_callB (cl_len (K := K)) (by rfl) B.len PySem.boot_len (pa_cons (pv 1) pa_nil)) pa_nil)) (blkOk_by (own := [("_law_k", 2)]) (N := N_l_are_zones) (sc := defScope s_l_are_zones) (by decide +kernel)) (fun _ _ _ _ _ => (pg_name (i := 2) sc_l_are_zones.nd rfl (.inl rfl))) (fun _ _ _ _ _ => (pts_one (pt_not (pt_val (pe_cc C_l_is_zone hr (pa_cons (pe_ix (ix_l (K := K)) (pv 0) (pv 2) (fun _ _ => rfl)) (pa_cons (pe_ix (ix_l (K := K)) (pv 1) (pv 2) (fun _ _ => rfl)) pa_nil))))))) (fun _ _ _ _ _ => (pv 2))) pa_nil)) pe_int (nomark _))) pss_nil), ?_⟩
    have c0 : Chg ([] : List Addr) H0 H0 := Chg.refl H0
    unfold Mi.m_l_are_zones at hm
    refine q_if (ans_orB (ans_N (ans_B (val_isi (val_var rfl) (ty_lsg r0) (n := "list") (m := "list") (b := true) (by decide +kernel)))) (fun _ => (ans_t (val_neI (val_lenG r0 (val_var rfl)) (val_lenG r1 (val_var rfl)))))) (fun hb => ?_) (fun hb => ?_)
    ·
      replace hm := Mi.ifT hb hm
      refine q_ret ?_
      refine c_val val_c ?_
      obtain rfl := Option.some.inj hm
      exact hQ _ c0 
    replace hm := Mi.ifF hb hm
    refine w_fall ?_
    refine q_ret ?_
    refine w_op ?_
    refine w_cb ?_
    refine w_cons ?_
    refine w_lc ?_
    refine w_iRng1 ?_
    refine w_args (va_cons (val_lenG r1 (val_var rfl)) va_nil) ?_
    obtain ⟨g4, hg4, hm⟩ := Mi.bnd hm
    obtain ⟨e5, he5, hm⟩ := Mi.bnd hm
    refine kc_rng1 (K := K) (τ := yInt) hg4 (fun D7 i H' => ∃ (s6 : (List Int)), Chg ([] : List Addr) H0 H' ∧ (yLsg (yLst yInt)).rep K H' F0 v0 d0 ∧ (yLsg (yLst yInt)).rep K H' F1 v1 d1 ∧ (yLst yInt).rep K H' [D7] (.ref D7) s6 ∧ Dj F0 [D7] ∧ Dj F1 [D7] ∧ (∀ a ∈ [D7], H0 a = none) ∧ Mi.forN (Mi.m_l_are_zones_b1 d0 d1) s6 (List.drop i g4) = some e5) (fun D7 H15 np14 c13 r8 => ⟨([] : (List Int)), c0.trans c13.none, (Ty.ex r0 c13), (Ty.ex r1 c13), r8, Ty.nin r0 np14, Ty.nin r1 np14, one_fresh (c0.dom D7 np14), he5⟩) (fun D7 i18 x17 H19 hx16 hp => ?_) (fun D7 H' np14 hp => ?_)
    ·
      obtain ⟨s6, c0, r0, r1, r8, d9, d10, n12, hle5⟩ := hp
      obtain ⟨_, hbe5, hle5⟩ := Mi.forN_go hle5 hx16
      unfold Mi.m_l_are_zones_b1 at hbe5
      refine g_name (σ' := [some v0, some v1, some (.int x17)]) rfl ?_
      refine ⟨rfl, ?_⟩
      refine w_not ?_
      refine w_B ?_
      refine w_call ?_
      obtain ⟨x26, hx26, hbe5⟩ := Mi.bnd hbe5
      obtain ⟨u27, F28, r29, su30, ap31, kx32, ku33⟩ := itm_G r0 hx26
      have d34 : Dj F28 [D7] := Dj.sub (d9) su30
      obtain ⟨x35, hx35, hbe5⟩ := Mi.bnd hbe5
      obtain ⟨u36, F37, r38, su39, ap40, kx41, ku42⟩ := itm_G r1 hx35
      have d43 : Dj F37 [D7] := Dj.sub (d10) su39
      refine w_args (va_cons (ku33 (val_var rfl) (val_var rfl)) (va_cons (ku42 (val_var rfl) (val_var rfl)) va_nil)) ?_
      obtain ⟨q44, hq44, hbe5⟩ := Mi.bnd hbe5
      refine ⟨u27, F28, x26, u36, F37, x35, q44, rfl, r29, r38, hq44, fun H46 c45  => ?_⟩
      have r0 := Ty.ex r0 c45
      have r1 := Ty.ex r1 c45
      have r8 := Ty.ex r8 c45
      have c0 := c0.trans c45.none
      refine ⟨_, rfl, ?_⟩
      refine c_if (fun hb => ?_) (fun hb => ?_)
      ·
        replace hbe5 := Mi.ifT hb hbe5
        refine c_val (val_var rfl) ?_
        obtain ⟨x47, hx47, hbe5⟩ := Mi.bnd hbe5
        refine e_app r8 yInt_i hx47 fun H49 c48 r8 => ?_
        have r0 := Ty.chg r0 c48 d9
        have r1 := Ty.chg r1 c48 d10
        have c0 := c0.join c48 (fun a h => .inr (n12 a h))
        obtain rfl := Option.some.inj hbe5
        exact ⟨x47, c0, r0, r1, r8, d9, d10, n12, hle5⟩
      ·
        replace hbe5 := Mi.ifF hb hbe5
        obtain rfl := Option.some.inj hbe5
        exact ⟨s6, c0, r0, r1, r8, d9, d10, n12, hle5⟩
    obtain ⟨s6, c0, r0, r1, r8, d9, d10, n12, hle5⟩ := hp
    obtain rfl := Mi.forN_end hle5
    refine w_nil ?_
    refine w_lenL r8 ?_
    refine c_val val_c ?_
    refine w_eqI ?_
    obtain rfl := Option.some.inj hm
    exact hQ _ c0 
abbrev s_l_all_fresh : Stmt := topS 46
abbrev N_l_all_fresh : List Str := ["_law_told", "_law_due", "_law_k", "_law_zone"]
theorem sc_l_all_fresh : FnScope ["_law_told", "_law_due", "_law_k", "_law_zone"] ["_law_told", "_law_due"] (defScope s_l_all_fresh) := ⟨rfl, rfl, rfl, by decide +kernel, rfl, by decide +kernel, by decide +kernel⟩
def sp_l_all_fresh (K : PySem.W.Frag) : Sp := fun vs H Q _ => ∃ (v0 : V) (F0 : List Addr) (d0 : (List (List Int))) (v1 : V) (F1 : List Addr) (d1 : (List (List Int))) (r : (Bool × (List (List Int)))), vs = [v0, v1] ∧ (yOwn (yLst yInt)).rep K H F0 v0 d0 ∧ (yLsg (yLst yInt)).rep K H F1 v1 d1 ∧ Dj F0 F1 ∧ Mi.m_l_all_fresh d0 d1 = some r ∧ ∀ H', Chg (F0) H H' → (yOwn (yLst yInt)).rep K H' F0 v0 r.2 → Q (.bl r.1) H'
theorem ok_l_all_fresh (B : Bi mg) (CN : Cs K mg) (D : Dfn K mg "_law_all_fresh" s_l_all_fresh)  : Cal P w K mg "_law_all_fresh" ["_law_told", "_law_due"] 1 (sp_l_all_fresh K) := by
  obtain ⟨f, fd, F, g⟩ := D.ex
  refine ⟨f, fd, g, F.kp, bindsF F (fun _ _ _ _ _ _ us hl => match us, hl with | [_, _], _ => rfl), fun base => F.ok sc_l_all_fresh (fun vs H Q E h => ?_) (fun cdv A outer s H0 vs Q E hr h => ?_)⟩
  · obtain ⟨v0, F0, d0, v1, F1, d1, r, rfl, r0, r1, dd0_1, hm, hQ⟩ := h; rfl
  ·
    obtain ⟨v0, F0, d0, v1, F1, d1, r, rfl, r0, r1, dd0_1, hm, hQ⟩ := h
    refine ⟨_, pss_cons (ps_for PassesOwn.never rfl (pi_range1 (by rfl) B.range (pa_cons (pe_callB (cl_len (K := K)) (by rfl) B.len PySem.boot_len (pa_cons (pv 1) pa_nil)) pa_nil)) (pg_name (i := 2) sc_l_all_fresh.nd rfl (.inl rfl)) (pss_cons (ps_if (pt_cmpR op_ne (pe_callB (cl_len (K := K)) (by rfl) B.len PySem.boot_len (pa_cons (pe_ix (ix_l (K := K)) (pv 0) (pv 2) (fun _ _ => rfl)) pa_nil)) (pe_callB (cl_len (K := K)) (by rfl) B.len PySem.boot_len (pa_cons (pe_ix (ix_l (K := K)) (pv 1) (pv 2) (fun _ _ => rfl)) pa_nil)) (nomark _)) (pss_cons (ps_ret pe_bl) pss_nil) (pss_nil))
      (pss_cons (ps_set (i := 3) sc_l_all_fresh.nd rfl (.inl rfl) (pe_ix (ix_l (K := K)) (pv 0) (pv 2) (fun _ _ => rfl)))
      (pss_cons (ps_expr (pe_bm PySem.F.plainAttrs_list PySem.F.slot_list_append PySem.F.type_list_append mt_append (pv 3) (pa_cons pe_int pa_nil)))
      (pss_nil)))))
      (pss_cons (ps_ret pe_bl) pss_nil), ?_⟩
    have c0 : Chg (F0) H0 H0 := Chg.refl H0
    unfold Mi.m_l_all_fresh at hm
    refine q_for ?_
    refine w_iRng1 ?_
    refine w_args (va_cons (val_lenG r1 (val_var rfl)) va_nil) ?_
    obtain ⟨g3, hg3, hm⟩ := Mi.bnd hm
    obtain ⟨e4, he4, hm⟩ := Mi.bnd hm
    refine l_rng1 hg3 (fun i σ' H' => ∃ (s5 : (List (List Int))) (y6 : Option V) (y7 : Option V), σ' = [some v0, some v1, y6, y7] ∧ Chg (F0) H0 H' ∧ (yOwn (yLst yInt)).rep K H' F0 v0 s5 ∧ (yLsg (yLst yInt)).rep K H' F1 v1 d1 ∧ Mi.forR (Mi.m_l_all_fresh_b1 d1) s5 (List.drop i g3) = some e4) ⟨d0, none, none, rfl, c0, r0, r1, he4⟩ (fun i10 x9 σ' H' hx8 hp => ?_) (fun σ' H' hp => ?_)
    ·
      obtain ⟨s5, y6, y7, rfl, c0, r0, r1, hle4⟩ := hp
      obtain ⟨o11, hbe4, hore4⟩ := Mi.forR_go hle4 hx8
      unfold Mi.m_l_all_fresh_b1 at hbe4
      refine g_name (σ' := [some v0, some v1, some (.int x9), y7]) rfl ?_
      obtain ⟨x12, hx12, hbe4⟩ := Mi.bnd hbe4
      obtain ⟨u13, F14, r15, su16, ap17, kx18, ku19⟩ := itm_G (own_lsg r0) hx12
      have d20 : Dj F14 F1 := Dj.sub (dd0_1) su16
      obtain ⟨x21, hx21, hbe4⟩ := Mi.bnd hbe4
      obtain ⟨u22, F23, r24, su25, ap26, kx27, ku28⟩ := itm_G r1 hx21
      have d29 : Dj F23 F0 := Dj.sub (dd0_1.symm) su25
      refine q_if (ans_t (val_neI (val_lenL r15 (ku19 (val_var rfl) (val_var rfl))) (val_lenL r24 (ku28 (val_var rfl) (val_var rfl))))) (fun hb => ?_) (fun hb => ?_)
      ·
        replace hbe4 := Mi.ifT hb hbe4
        refine q_ret ?_
        refine c_val val_c ?_
        obtain rfl := Option.some.inj hbe4
        obtain rfl := Mi.or_inl hore4
        obtain rfl := Option.some.inj (Mi.orR_inl hm)
        exact hQ _ c0 r0
      replace hbe4 := Mi.ifF hb hbe4
      refine w_fall ?_
      obtain ⟨x30, hx30, hbe4⟩ := Mi.bnd hbe4
      obtain ⟨u31, tu32, kx33, ku34, ka35⟩ := itm_O r0 hx30
      refine q_setE (ku34 (val_var rfl) (val_var rfl)) rfl (σ' := [some v0, some v1, some (.int x9), some u31]) rfl ?_
      obtain ⟨x36, hx36, hbe4⟩ := Mi.bnd hbe4
      refine q_drop (w_bm (c_val (val_var rfl) ⟨tu32, w_args (va_cons val_c va_nil) ?_⟩))
      refine ka35 yInt_i hx36 fun H38 c37 r0 => ?_
      have r1 := Ty.chg r1 c37 dd0_1.symm
      have c0 := c0.join c37 (fun a h => .inl (h))
      refine w_nextJ ?_
      obtain rfl := Option.some.inj hbe4
      replace hore4 := Mi.or_inr hore4
      exact ⟨_, (some (.int x9)), (some u31), rfl, c0, r0, r1, hore4⟩
    obtain ⟨s5, y6, y7, rfl, c0, r0, r1, hle4⟩ := hp
    obtain rfl := Mi.forR_end hle4
    replace hm := Mi.orR_inr hm
    refine q_ret ?_
    refine c_val val_c ?_
    obtain rfl := Option.some.inj hm
    exact hQ _ c0 r0
abbrev s_l_corridors_hold : Stmt := topS 47
abbrev N_l_corridors_hold : List Str := ["_law_sea_here", "_law_chart_here", "_law_horizon", "_law_handed", "_law_notes", "_law_ship", "_law_due", "_law_told"]
theorem sc_l_corridors_hold : FnScope ["_law_sea_here", "_law_chart_here", "_law_horizon", "_law_handed", "_law_notes", "_law_ship", "_law_due", "_law_told"] ["_law_sea_here", "_law_chart_here", "_law_horizon", "_law_handed", "_law_notes"] (defScope s_l_corridors_hold) := ⟨rfl, rfl, rfl, by decide +kernel, rfl, by decide +kernel, by decide +kernel⟩
def sp_l_corridors_hold (K : PySem.W.Frag) (C_Report : Addr) (C_Chart : Addr) : Sp := fun vs H Q _ => (∃ (v0 : V) (F0 : List Addr) (d0 : ((List Int) × (List (Int × Int)) × (List Int) × (List Int))) (v1 : V) (d1 : (Int × (List Int) × (List (Int × Int)) × (List Int) × (List Int) × (List (List Int)))) (d2 : Int) (v3 : V) (F3 : List Addr) (d3 : (List (Int × Int × (List Int) × Int × Bool))) (v4 : V) (F4 : List Addr) (d4 : (List (Int × Int × (List Int) × Int × Bool))) (r : Bool), vs = [v0, v1, (.int d2), v3, v4] ∧ (yTup (sCons (yLst yInt) (sCons (yLst (yTup (sCons yInt (sOne yInt)))) (sCons (yLst yInt) (sOne (yLst yInt)))))).rep K H F0 v0 d0 ∧ (yObj C_Chart nm_Chart ty_Chart).rep K H [] v1 d1 ∧ (yLst (yObj C_Report nm_Report ty_Report)).rep K H F3 v3 d3 ∧ (yLsg (yTup (sCons yInt (sCons yInt (sCons (yLst yInt) (sCons yInt (sOne yBool))))))).rep K H F4 v4 d4 ∧ Mi.m_l_corridors_hold_0 d0 d1 d2 d3 d4 = some r ∧ ∀ H', Chg ([]) H H' → Q (.bl r) H') ∨ (∃ (v0 : V) (F0 : List Addr) (d0 : ((List Int) × (List (Int × Int)) × (List Int) × (List Int))) (v1 : V) (d1 : (Int × (List Int) × (List (Int × Int)) × (List Int) × (List Int) × (List (List Int)))) (d2 : Int) (v3 : V) (d3 : (List (Int × Int × (List Int) × Int × Bool))) (v4 : V) (F4 : List Addr) (d4 : (List (Int × Int × (List Int) × Int × Bool))) (r : Bool), vs = [v0, v1, (.int d2), v3, v4] ∧ (yTup (sCons (yLst yInt) (sCons (yLst (yTup (sCons yInt (sOne yInt)))) (sCons (yLst yInt) (sOne (yLst yInt)))))).rep K H F0 v0 d0 ∧ (yObj C_Chart nm_Chart ty_Chart).rep K H [] v1 d1 ∧ (yTupL (yObj C_Report nm_Report ty_Report)).rep K H [] v3 d3 ∧ (yLsg (yTup (sCons yInt (sCons yInt (sCons (yLst yInt) (sCons yInt (sOne yBool))))))).rep K H F4 v4 d4 ∧ Mi.m_l_corridors_hold_1 d0 d1 d2 d3 d4 = some r ∧ ∀ H', Chg ([]) H H' → Q (.bl r) H')
theorem ok_l_corridors_hold (B : Bi mg) (CN : Cs K mg) (D : Dfn K mg "_law_corridors_hold" s_l_corridors_hold) {C_Report : Addr} (T_Report : Tx K mg C_Report "Report" nm_Report) {C_Chart : Addr} (T_Chart : Tx K mg C_Chart "Chart" nm_Chart) (C_corridor_of : Cal P w K mg "corridor_of" ["chart", "horizon", "reports", "ship"] 3 (sp_corridor_of K C_Report C_Chart)) (C_l_corridor : Cal P w K mg "_law_corridor" ["_law_sea_here", "_law_notes", "_law_ship", "_law_count"] 1 (sp_l_corridor K)) (C_l_are_zones : Cal P w K mg "_law_are_zones" ["_law_told", "_law_due"] 3 (sp_l_are_zones K)) (C_l_all_fresh : Cal P w K mg "_law_all_fresh" ["_law_told", "_law_due"] 1 (sp_l_all_fresh K)) : Cal P w K mg "_law_corridors_hold" ["_law_sea_here", "_law_chart_here", "_law_horizon", "_law_handed", "_law_notes"] 4 (sp_l_corridors_hold K C_Report C_Chart) := by
  obtain ⟨f, fd, F, g⟩ := D.ex
  refine ⟨f, fd, g, F.kp, bindsF F (fun _ _ _ _ _ _ us hl => match us, hl with | [_, _, _, _, _], _ => rfl), fun base => F.ok sc_l_corridors_hold (fun vs H Q E h => ?_) (fun cdv A outer s H0 vs Q E hr h => ?_)⟩
  · rcases h with ⟨v0, F0, d0, v1, d1, d2, v3, F3, d3, v4, F4, d4, r, rfl, r0, r1, r3, r4, hm, hQ⟩ | ⟨v0, F0, d0, v1, d1, d2, v3, d3, v4, F4, d4, r, rfl, r0, r1, r3, r4, hm, hQ⟩
    all_goals rfl
  · rcases h with h | h
    ·
      obtain ⟨v0, F0, d0, v1, d1, d2, v3, F3, d3, v4, F4, d4, r, rfl, r0, r1, r3, r4, hm, hQ⟩ := h
      refine ⟨_, pss_cons (ps_for PassesOwn.never rfl (pi_range1 (by rfl) B.range (pa_cons pe_int pa_nil)) (pg_name (i := 5) sc_l_corridors_hold.nd rfl (.inl rfl)) (pss_cons (ps_set (i := 6) sc_l_corridors_hold.nd rfl (.inl rfl) (pe_cc C_l_corridor hr (pa_cons (pv 0) (pa_cons (pv 4) (pa_cons (pv 5) (pa_cons (pe_op op_add (pv 2) pe_int) pa_nil))))))
      (pss_cons (ps_set (i := 7) sc_l_corridors_hold.nd rfl (.inl rfl) (pe_cc C_corridor_of hr (pa_cons (pv 1) (pa_cons (pv 2) (pa_cons (pv 3) (pa_cons (pv 5) pa_nil))))))
      (pss_cons (ps_if (PW.pt (pw_or (pt_not (pt_val (pe_cc C_l_are_zones hr (pa_cons (pv 7) (pa_cons (pv 6) pa_nil))))) (pw_or1 (pt_not (pt_val (pe_cc C_l_all_fresh hr (pa_cons (pv 7) (pa_cons (pv 6) pa_nil)))))))) (pss_cons (ps_ret pe_bl) pss_nil) (pss_nil))
      (pss_cons (ps_expr (pe_bm PySem.F.plainAttrs_list PySem.F.slot_list_append PySem.F.type_list_append mt_append (pv 7) (pa_cons (pe_lst (pa_cons pe_int pa_nil)) pa_nil)))
      (pss_cons (ps_if (pt_not (pt_val (pe_cc C_l_are_zones hr (pa_cons (pe_cc C_corridor_of hr (pa_cons (pv 1) (pa_cons (pv 2) (pa_cons (pv 3) (pa_cons (pv 5) pa_nil))))) (pa_cons (pv 6) pa_nil))))) (pss_cons (ps_ret pe_bl) pss_nil) (pss_nil))
      (pss_nil)))))))
      (pss_cons (ps_ret pe_bl) pss_nil), ?_⟩
      have c0 : Chg ([] : List Addr) H0 H0 := Chg.refl H0
      unfold Mi.m_l_corridors_hold_0 at hm
      refine q_for ?_
      refine w_iRng1 ?_
      refine w_args (va_cons val_c va_nil) ?_
      obtain ⟨g6, hg6, hm⟩ := Mi.bnd hm
      obtain ⟨e7, he7, hm⟩ := Mi.bnd hm
      refine l_rng1 hg6 (fun i σ' H' => ∃ (s8 : Unit) (y9 : Option V) (y10 : Option V) (y11 : Option V), σ' = [some v0, some v1, some (.int d2), some v3, some v4, y9, y10, y11] ∧ Chg ([] : List Addr) H0 H' ∧ (yTup (sCons (yLst yInt) (sCons (yLst (yTup (sCons yInt (sOne yInt)))) (sCons (yLst yInt) (sOne (yLst yInt)))))).rep K H' F0 v0 d0 ∧ (yObj C_Chart nm_Chart ty_Chart).rep K H' [] v1 d1 ∧ (yLst (yObj C_Report nm_Report ty_Report)).rep K H' F3 v3 d3 ∧ (yLsg (yTup (sCons yInt (sCons yInt (sCons (yLst yInt) (sCons yInt (sOne yBool))))))).rep K H' F4 v4 d4 ∧ Mi.forR (Mi.m_l_corridors_hold_0_b1 d0 d1 d2 d3 d4) s8 (List.drop i g6) = some e7) ⟨(), none, none, none, rfl, c0, r0, r1, r3, r4, he7⟩ (fun i14 x13 σ' H' hx12 hp => ?_) (fun σ' H' hp => ?_)
      ·
        obtain ⟨s8, y9, y10, y11, rfl, c0, r0, r1, r3, r4, hle7⟩ := hp
        obtain ⟨o15, hbe7, hore7⟩ := Mi.forR_go hle7 hx12
        unfold Mi.m_l_corridors_hold_0_b1 at hbe7
        refine g_name (σ' := [some v0, some v1, some (.int d2), some v3, some v4, some (.int x13), y10, y11]) rfl ?_
        refine q_asg ?_
        refine w_call ?_
        refine w_args (va_cons (val_var rfl) (va_cons (val_var rfl) (va_cons (val_var rfl) (va_cons (val_add (val_var rfl) val_c) va_nil)))) ?_
        obtain ⟨q16, hq16, hbe7⟩ := Mi.bnd hbe7
        refine ⟨v0, F0, d0, v4, F4, d4, x13, (d2 + (1 : Int)), q16, rfl, r0, r4, hq16, fun v19 H18 F21 c17 r20 fr22  => ?_⟩
        have d23 : Dj F0 F21 := Ty.fresh r0 fr22
        have d24 : Dj F3 F21 := Ty.fresh r3 fr22
        have d25 : Dj F4 F21 := Ty.fresh r4 fr22
        have n26 : ∀ a ∈ F21, H0 a = none := fun a h => c0.dom a (fr22 a h)
        have r0 := Ty.ex r0 c17
        have r1 := Ty.fz r1 c17
        have r3 := Ty.ex r3 c17
        have r4 := Ty.ex r4 c17
        have c0 := c0.trans c17.none
        refine g_name (σ' := [some v0, some v1, some (.int d2), some v3, some v4, some (.int x13), some v19, y11]) rfl ?_
        refine q_asg ?_
        refine w_call ?_
        refine w_args (va_cons (val_var rfl) (va_cons (val_var rfl) (va_cons (val_var rfl) (va_cons (val_var rfl) va_nil)))) ?_
        obtain ⟨q27, hq27, hbe7⟩ := Mi.bnd hbe7
        refine Or.inl ⟨v1, d1, d2, v3, F3, d3, x13, q27, rfl, r1, r3, hq27, fun v30 H29 F32 c28 r31 fr33  => ?_⟩
        have d34 : Dj F0 F32 := Ty.fresh r0 fr33
        have d35 : Dj F3 F32 := Ty.fresh r3 fr33
        have d36 : Dj F4 F32 := Ty.fresh r4 fr33
        have d37 : Dj F21 F32 := Ty.fresh r20 fr33
        have n38 : ∀ a ∈ F32, H0 a = none := fun a h => c0.dom a (fr33 a h)
        have r0 := Ty.ex r0 c28
        have r1 := Ty.fz r1 c28
        have r3 := Ty.ex r3 c28
        have r4 := Ty.ex r4 c28
        have r20 := Ty.ex r20 c28
        have c0 := c0.trans c28.none
        refine g_name (σ' := [some v0, some v1, some (.int d2), some v3, some v4, some (.int x13), some v19, some v30]) rfl ?_
        refine q_ifS ?_
        obtain ⟨b39, hb39, hbe7⟩ := Mi.bnd hbe7
        refine j_tt b39.1 (R := fun H' => Chg ([] : List Addr) H0 H' ∧ (yTup (sCons (yLst yInt) (sCons (yLst (yTup (sCons yInt (sOne yInt)))) (sCons (yLst yInt) (sOne (yLst yInt)))))).rep K H' F0 v0 d0 ∧ (yObj C_Chart nm_Chart ty_Chart).rep K H' [] v1 d1 ∧ (yLst (yObj C_Report nm_Report ty_Report)).rep K H' F3 v3 d3 ∧ (yLsg (yTup (sCons yInt (sCons yInt (sCons (yLst yInt) (sCons yInt (sOne yBool))))))).rep K H' F4 v4 d4 ∧ (yLsg (yLst yInt)).rep K H' F21 v19 q16 ∧ (yOwn (yLst yInt)).rep K H' F32 v30 b39.2) (fun Q' kq => ?_) (fun H' hj => ?_)
        ·
          refine w_or ?_
          refine w_not ?_
          refine w_B ?_
          refine w_call ?_
          refine w_args (va_cons (val_var rfl) (va_cons (val_var rfl) va_nil)) ?_
          obtain ⟨q40, hq40, hb39⟩ := Mi.bnd hb39
          refine ⟨v30, F32, q27, v19, F21, q16, q40, rfl, (own_lsg r31), r20, hq40, fun H42 c41  => ?_⟩
          have r0 := Ty.ex r0 c41
          have r1 := Ty.fz r1 c41
          have r3 := Ty.ex r3 c41
          have r4 := Ty.ex r4 c41
          have r20 := Ty.ex r20 c41
          have r31 := Ty.ex r31 c41
          have c0 := c0.trans c41.none
          refine ⟨_, rfl, ?_⟩
          refine c_if (fun hb => ?_) (fun hb => ?_)
          ·
            replace hb39 := Mi.ifT hb hb39
            obtain rfl := Option.some.inj hb39
            exact kq _ ⟨c0, r0, r1, r3, r4, r20, r31⟩
          replace hb39 := Mi.ifF hb hb39
          refine w_not ?_
          refine w_B ?_
          refine w_call ?_
          refine w_args (va_cons (val_var rfl) (va_cons (val_var rfl) va_nil)) ?_
          obtain ⟨q43, hq43, hb39⟩ := Mi.bnd hb39
          refine ⟨v30, F32, q27, v19, F21, q16, q43, rfl, r31, r20, d37.symm, hq43, fun H45 c44 r31 => ?_⟩
          have r0 := Ty.chg r0 c44 d34
          have r1 := Ty.fz r1 c44
          have r3 := Ty.chg r3 c44 d35
          have r4 := Ty.chg r4 c44 d36
          have r20 := Ty.chg r20 c44 d37
          have c0 := c0.join c44 (fun a h => .inr (n38 a h))
          refine ⟨_, rfl, ?_⟩
          obtain rfl := Option.some.inj hb39
          exact kq _ ⟨c0, r0, r1, r3, r4, r20, r31⟩
        obtain ⟨c0, r0, r1, r3, r4, r20, r31⟩ := hj
        refine c_if (fun hb => ?_) (fun hb => ?_)
        ·
          replace hbe7 := Mi.ifT hb hbe7
          refine q_ret ?_
          refine c_val val_c ?_
          obtain rfl := Option.some.inj hbe7
          obtain rfl := Mi.or_inl hore7
          obtain rfl := Option.some.inj (Mi.orR_inl hm)
          exact hQ _ c0 
        replace hbe7 := Mi.ifF hb hbe7
        refine w_fall ?_
        refine q_drop (w_bm (c_val (val_var rfl) ⟨tyv_lsg (own_lsg r31), ?_⟩))
        refine w_cons ?_
        refine w_lst ?_
        refine w_args (va_cons val_c va_nil) ?_
        refine e_lst (K := K) (τ := yInt) (by exact Nat.le_of_ble_eq_true rfl) (.cons yInt_i .nil) fun p46 H50 np49 c47 r48 => ?_
        have d51 : Dj F0 [p46] := Ty.nin r0 np49
        have d52 : Dj F3 [p46] := Ty.nin r3 np49
        have d53 : Dj F4 [p46] := Ty.nin r4 np49
        have d54 : Dj F21 [p46] := Ty.nin r20 np49
        have d55 : Dj F32 [p46] := Ty.nin r31 np49
        have n56 : ∀ a ∈ [p46], H0 a = none := one_fresh (c0.dom p46 np49)
        have r0 := Ty.ex r0 c47
        have r1 := Ty.fz r1 c47
        have r3 := Ty.ex r3 c47
        have r4 := Ty.ex r4 c47
        have r20 := Ty.ex r20 c47
        have r31 := Ty.ex r31 c47
        have c0 := c0.trans c47.none
        refine w_nil ?_
        obtain ⟨x57, hx57, hbe7⟩ := Mi.bnd hbe7
        refine m_appO r31 r48 (d55) (lst_nd r48) hx57 fun H61 F62 c60 r31 sa63 sb64 => ?_
        have r0 := Ty.chg r0 c60 d34
        have r1 := Ty.fz r1 c60
        have r3 := Ty.chg r3 c60 d35
        have r4 := Ty.chg r4 c60 d36
        have r20 := Ty.chg r20 c60 d37
        have r48 := Ty.chg r48 c60 d55.symm
        have c0 := c0.join c60 (fun a h => .inr (n38 a h))
        have d65 : Dj F0 F62 := Dj.grow (d34) (d51) sb64
        have d66 : Dj F3 F62 := Dj.grow (d35) (d52) sb64
        have d67 : Dj F4 F62 := Dj.grow (d36) (d53) sb64
        have d68 : Dj F21 F62 := Dj.grow (d37) (d54) sb64
        have n69 : ∀ a ∈ F62, H0 a = none := fresh_grow n38 n56 sb64
        refine q_ifS ?_
        refine w_not ?_
        refine w_B ?_
        refine w_call ?_
        refine w_cons ?_
        refine w_call ?_
        refine w_args (va_cons (val_var rfl) (va_cons (val_var rfl) (va_cons (val_var rfl) (va_cons (val_var rfl) va_nil)))) ?_
        obtain ⟨q70, hq70, hbe7⟩ := Mi.bnd hbe7
        refine Or.inl ⟨v1, d1, d2, v3, F3, d3, x13, q70, rfl, r1, r3, hq70, fun v73 H72 F75 c71 r74 fr76  => ?_⟩
        have d77 : Dj F0 F75 := Ty.fresh r0 fr76
        have d78 : Dj F3 F75 := Ty.fresh r3 fr76
        have d79 : Dj F4 F75 := Ty.fresh r4 fr76
        have d80 : Dj F21 F75 := Ty.fresh r20 fr76
        have d81 : Dj F62 F75 := Ty.fresh r31 fr76
        have n82 : ∀ a ∈ F75, H0 a = none := fun a h => c0.dom a (fr76 a h)
        have r0 := Ty.ex r0 c71
        have r1 := Ty.fz r1 c71
        have r3 := Ty.ex r3 c71
        have r4 := Ty.ex r4 c71
        have r20 := Ty.ex r20 c71
        have r31 := Ty.ex r31 c71
        have c0 := c0.trans c71.none
        refine w_cons ?_
        refine c_val (val_var rfl) ?_
        refine w_nil ?_
        obtain ⟨q83, hq83, hbe7⟩ := Mi.bnd hbe7
        refine ⟨v73, F75, q70, v19, F21, q16, q83, rfl, (own_lsg r74), r20, hq83, fun H85 c84  => ?_⟩
        have r0 := Ty.ex r0 c84
        have r1 := Ty.fz r1 c84
        have r3 := Ty.ex r3 c84
        have r4 := Ty.ex r4 c84
        have r20 := Ty.ex r20 c84
        have r31 := Ty.ex r31 c84
        have c0 := c0.trans c84.none
        refine ⟨_, rfl, ?_⟩
        refine c_if (fun hb => ?_) (fun hb => ?_)
        ·
          replace hbe7 := Mi.ifT hb hbe7
          refine q_ret ?_
          refine c_val val_c ?_
          obtain rfl := Option.some.inj hbe7
          obtain rfl := Mi.or_inl hore7
          obtain rfl := Option.some.inj (Mi.orR_inl hm)
          exact hQ _ c0 
        replace hbe7 := Mi.ifF hb hbe7
        refine w_fall ?_
        refine w_nextJ ?_
        obtain rfl := Option.some.inj hbe7
        replace hore7 := Mi.or_inr hore7
        exact ⟨_, (some (.int x13)), (some v19), (some v30), rfl, c0, r0, r1, r3, r4, hore7⟩
      obtain ⟨s8, y9, y10, y11, rfl, c0, r0, r1, r3, r4, hle7⟩ := hp
      obtain rfl := Mi.forR_end hle7
      replace hm := Mi.orR_inr hm
      refine q_ret ?_
      refine c_val val_c ?_
      obtain rfl := Option.some.inj hm
      exact hQ _ c0 
    ·
      obtain ⟨v0, F0, d0, v1, d1, d2, v3, d3, v4, F4, d4, r, rfl, r0, r1, r3, r4, hm, hQ⟩ := h
      refine ⟨_, pss_cons (ps_for PassesOwn.never rfl (pi_range1 (by rfl) B.range (pa_cons pe_int pa_nil)) (pg_name (i := 5) sc_l_corridors_hold.nd rfl (.inl rfl)) (pss_cons (ps_set (i := 6) sc_l_corridors_hold.nd rfl (.inl rfl) (pe_cc C_l_corridor hr (pa_cons (pv 0) (pa_cons (pv 4) (pa_cons (pv 5) (pa_cons (pe_op op_add (pv 2) pe_int) pa_nil))))))
      (pss_cons (ps_set (i := 7) sc_l_corridors_hold.nd rfl (.inl rfl) (pe_cc C_corridor_of hr (pa_cons (pv 1) (pa_cons (pv 2) (pa_cons (pv 3) (pa_cons (pv 5) pa_nil))))))
      (pss_cons (ps_if (PW.pt (pw_or (pt_not (pt_val (pe_cc C_l_are_zones hr (pa_cons (pv 7) (pa_cons (pv 6) pa_nil))))) (pw_or1 (pt_not (pt_val (pe_cc C_l_all_fresh hr (pa_cons (pv 7) (pa_cons (pv 6) pa_nil)))))))) (pss_cons (ps_ret pe_bl) pss_nil) (pss_nil))
      (pss_cons (ps_expr (pe_bm PySem.F.plainAttrs_list PySem.F.slot_list_append PySem.F.type_list_append mt_append (pv 7) (pa_cons (pe_lst (pa_cons pe_int pa_nil)) pa_nil)))
      (pss_cons (ps_if (pt_not (pt_val (pe_cc C_l_are_zones hr (pa_cons (pe_cc C_corridor_of hr (pa_cons (pv 1) (pa_cons (pv 2) (pa_cons (pv 3) (pa_cons (pv 5) pa_nil))))) (pa_cons (pv 6) pa_nil))))) (pss_cons (ps_ret pe_bl) pss_nil) (pss_nil))
      (pss_nil)))))))
      (pss_cons (ps_ret pe_bl) pss_nil), ?_⟩
      have c0 : Chg ([] : List Addr) H0 H0 := Chg.refl H0
      unfold Mi.m_l_corridors_hold_1 at hm
      refine q_for ?_
      refine w_iRng1 ?_
      refine w_args (va_cons val_c va_nil) ?_
      obtain ⟨g6, hg6, hm⟩ := Mi.bnd hm
      obtain ⟨e7, he7, hm⟩ := Mi.bnd hm
      refine l_rng1 hg6 (fun i σ' H' => ∃ (s8 : Unit) (y9 : Option V) (y10 : Option V) (y11 : Option V), σ' = [some v0, some v1, some (.int d2), some v3, some v4, y9, y10, y11] ∧ Chg ([] : List Addr) H0 H' ∧ (yTup (sCons (yLst yInt) (sCons (yLst (yTup (sCons yInt (sOne yInt)))) (sCons (yLst yInt) (sOne (yLst yInt)))))).rep K H' F0 v0 d0 ∧ (yObj C_Chart nm_Chart ty_Chart).rep K H' [] v1 d1 ∧ (yTupL (yObj C_Report nm_Report ty_Report)).rep K H' [] v3 d3 ∧ (yLsg (yTup (sCons yInt (sCons yInt (sCons (yLst yInt) (sCons yInt (sOne yBool))))))).rep K H' F4 v4 d4 ∧ Mi.forR (Mi.m_l_corridors_hold_1_b1 d0 d1 d2 d3 d4) s8 (List.drop i g6) = some e7) ⟨(), none, none, none, rfl, c0, r0, r1, r3, r4, he7⟩ (fun i14 x13 σ' H' hx12 hp => ?_) (fun σ' H' hp => ?_)
      ·
        obtain ⟨s8, y9, y10, y11, rfl, c0, r0, r1, r3, r4, hle7⟩ := hp
        obtain ⟨o15, hbe7, hore7⟩ := Mi.forR_go hle7 hx12
        unfold Mi.m_l_corridors_hold_1_b1 at hbe7
        refine g_name (σ' := [some v0, some v1, some (.int d2), some v3, some v4, some (.int x13), y10, y11]) rfl ?_
        refine q_asg ?_
        refine w_call ?_
        refine w_args (va_cons (val_var rfl) (va_cons (val_var rfl) (va_cons (val_var rfl) (va_cons (val_add (val_var rfl) val_c) va_nil)))) ?_
        obtain ⟨q16, hq16, hbe7⟩ := Mi.bnd hbe7
        refine ⟨v0, F0, d0, v4, F4, d4, x13, (d2 + (1 : Int)), q16, rfl, r0, r4, hq16, fun v19 H18 F21 c17 r20 fr22  => ?_⟩
        have d23 : Dj F0 F21 := Ty.fresh r0 fr22
        have d24 : Dj F4 F21 := Ty.fresh r4 fr22
        have n25 : ∀ a ∈ F21, H0 a = none := fun a h => c0.dom a (fr22 a h)
        have r0 := Ty.ex r0 c17
        have r1 := Ty.fz r1 c17
        have r3 := Ty.fz r3 c17
        have r4 := Ty.ex r4 c17
        have c0 := c0.trans c17.none
        refine g_name (σ' := [some v0, some v1, some (.int d2), some v3, some v4, some (.int x13), some v19, y11]) rfl ?_
        refine q_asg ?_
        refine w_call ?_
        refine w_args (va_cons (val_var rfl) (va_cons (val_var rfl) (va_cons (val_var rfl) (va_cons (val_var rfl) va_nil)))) ?_
        obtain ⟨q26, hq26, hbe7⟩ := Mi.bnd hbe7
        refine Or.inr (⟨v1, d1, d2, v3, d3, x13, q26, rfl, r1, r3, hq26, fun v29 H28 F31 c27 r30 fr32  => ?_⟩)
        have d33 : Dj F0 F31 := Ty.fresh r0 fr32
        have d34 : Dj F4 F31 := Ty.fresh r4 fr32
        have d35 : Dj F21 F31 := Ty.fresh r20 fr32
        have n36 : ∀ a ∈ F31, H0 a = none := fun a h => c0.dom a (fr32 a h)
        have r0 := Ty.ex r0 c27
        have r1 := Ty.fz r1 c27
        have r3 := Ty.fz r3 c27
        have r4 := Ty.ex r4 c27
        have r20 := Ty.ex r20 c27
        have c0 := c0.trans c27.none
        refine g_name (σ' := [some v0, some v1, some (.int d2), some v3, some v4, some (.int x13), some v19, some v29]) rfl ?_
        refine q_ifS ?_
        obtain ⟨b37, hb37, hbe7⟩ := Mi.bnd hbe7
        refine j_tt b37.1 (R := fun H' => Chg ([] : List Addr) H0 H' ∧ (yTup (sCons (yLst yInt) (sCons (yLst (yTup (sCons yInt (sOne yInt)))) (sCons (yLst yInt) (sOne (yLst yInt)))))).rep K H' F0 v0 d0 ∧ (yObj C_Chart nm_Chart ty_Chart).rep K H' [] v1 d1 ∧ (yTupL (yObj C_Report nm_Report ty_Report)).rep K H' [] v3 d3 ∧ (yLsg (yTup (sCons yInt (sCons yInt (sCons (yLst yInt) (sCons yInt (sOne yBool))))))).rep K H' F4 v4 d4 ∧ (yLsg (yLst yInt)).rep K H' F21 v19 q16 ∧ (yOwn (yLst yInt)).rep K H' F31 v29 b37.2) (fun Q' kq => ?_) (fun H' hj => ?_)
        ·
          refine w_or ?_
          refine w_not ?_
          refine w_B ?_
          refine w_call ?_
          refine w_args (va_cons (val_var rfl) (va_cons (val_var rfl) va_nil)) ?_
          obtain ⟨q38, hq38, hb37⟩ := Mi.bnd hb37
          refine ⟨v29, F31, q26, v19, F21, q16, q38, rfl, (own_lsg r30), r20, hq38, fun H40 c39  => ?_⟩
          have r0 := Ty.ex r0 c39
          have r1 := Ty.fz r1 c39
          have r3 := Ty.fz r3 c39
          have r4 := Ty.ex r4 c39
          have r20 := Ty.ex r20 c39
          have r30 := Ty.ex r30 c39
          have c0 := c0.trans c39.none
          refine ⟨_, rfl, ?_⟩
          refine c_if (fun hb => ?_) (fun hb => ?_)
          ·
            replace hb37 := Mi.ifT hb hb37
            obtain rfl := Option.some.inj hb37
            exact kq _ ⟨c0, r0, r1, r3, r4, r20, r30⟩
          replace hb37 := Mi.ifF hb hb37
          refine w_not ?_
          refine w_B ?_
          refine w_call ?_
          refine w_args (va_cons (val_var rfl) (va_cons (val_var rfl) va_nil)) ?_
          obtain ⟨q41, hq41, hb37⟩ := Mi.bnd hb37
          refine ⟨v29, F31, q26, v19, F21, q16, q41, rfl, r30, r20, d35.symm, hq41, fun H43 c42 r30 => ?_⟩
          have r0 := Ty.chg r0 c42 d33
          have r1 := Ty.fz r1 c42
          have r3 := Ty.fz r3 c42
          have r4 := Ty.chg r4 c42 d34
          have r20 := Ty.chg r20 c42 d35
          have c0 := c0.join c42 (fun a h => .inr (n36 a h))
          refine ⟨_, rfl, ?_⟩
          obtain rfl := Option.some.inj hb37
          exact kq _ ⟨c0, r0, r1, r3, r4, r20, r30⟩
        obtain ⟨c0, r0, r1, r3, r4, r20, r30⟩ := hj
        refine c_if (fun hb => ?_) (fun hb => ?_)
        ·
          replace hbe7 := Mi.ifT hb hbe7
          refine q_ret ?_
          refine c_val val_c ?_
          obtain rfl := Option.some.inj hbe7
          obtain rfl := Mi.or_inl hore7
          obtain rfl := Option.some.inj (Mi.orR_inl hm)
          exact hQ _ c0 
        replace hbe7 := Mi.ifF hb hbe7
        refine w_fall ?_
        refine q_drop (w_bm (c_val (val_var rfl) ⟨tyv_lsg (own_lsg r30), ?_⟩))
        refine w_cons ?_
        refine w_lst ?_
        refine w_args (va_cons val_c va_nil) ?_
        refine e_lst (K := K) (τ := yInt) (by exact Nat.le_of_ble_eq_true rfl) (.cons yInt_i .nil) fun p44 H48 np47 c45 r46 => ?_
        have d49 : Dj F0 [p44] := Ty.nin r0 np47
        have d50 : Dj F4 [p44] := Ty.nin r4 np47
        have d51 : Dj F21 [p44] := Ty.nin r20 np47
        have d52 : Dj F31 [p44] := Ty.nin r30 np47
        have n53 : ∀ a ∈ [p44], H0 a = none := one_fresh (c0.dom p44 np47)
        have r0 := Ty.ex r0 c45
        have r1 := Ty.fz r1 c45
        have r3 := Ty.fz r3 c45
        have r4 := Ty.ex r4 c45
        have r20 := Ty.ex r20 c45
        have r30 := Ty.ex r30 c45
        have c0 := c0.trans c45.none
        refine w_nil ?_
        obtain ⟨x54, hx54, hbe7⟩ := Mi.bnd hbe7
        refine m_appO r30 r46 (d52) (lst_nd r46) hx54 fun H58 F59 c57 r30 sa60 sb61 => ?_
        have r0 := Ty.chg r0 c57 d33
        have r1 := Ty.fz r1 c57
        have r3 := Ty.fz r3 c57
        have r4 := Ty.chg r4 c57 d34
        have r20 := Ty.chg r20 c57 d35
        have r46 := Ty.chg r46 c57 d52.symm
        have c0 := c0.join c57 (fun a h => .inr (n36 a h))
        have d62 : Dj F0 F59 := Dj.grow (d33) (d49) sb61
        have d63 : Dj F4 F59 := Dj.grow (d34) (d50) sb61
        have d64 : Dj F21 F59 := Dj.grow (d35) (d51) sb61
        have n65 : ∀ a ∈ F59, H0 a = none := fresh_grow n36 n53 sb61
        refine q_ifS ?_
        refine w_not ?_
        refine w_B ?_
        refine w_call ?_
        refine w_cons ?_
        refine w_call ?_
        refine w_args (va_cons (val_var rfl) (va_cons (val_var rfl) (va_cons (val_var rfl) (va_cons (val_var rfl) va_nil)))) ?_
        obtain ⟨q66, hq66, hbe7⟩ := Mi.bnd hbe7
        refine Or.inr (⟨v1, d1, d2, v3, d3, x13, q66, rfl, r1, r3, hq66, fun v69 H68 F71 c67 r70 fr72  => ?_⟩)
        have d73 : Dj F0 F71 := Ty.fresh r0 fr72
        have d74 : Dj F4 F71 := Ty.fresh r4 fr72
        have d75 : Dj F21 F71 := Ty.fresh r20 fr72
        have d76 : Dj F59 F71 := Ty.fresh r30 fr72
        have n77 : ∀ a ∈ F71, H0 a = none := fun a h => c0.dom a (fr72 a h)
        have r0 := Ty.ex r0 c67
        have r1 := Ty.fz r1 c67
        have r3 := Ty.fz r3 c67
        have r4 := Ty.ex r4 c67
        have r20 := Ty.ex r20 c67
        have r30 := Ty.ex r30 c67
        have c0 := c0.trans c67.none
        refine w_cons ?_
        refine c_val (val_var rfl) ?_
        refine w_nil ?_
        obtain ⟨q78, hq78, hbe7⟩ := Mi.bnd hbe7
        refine ⟨v69, F71, q66, v19, F21, q16, q78, rfl, (own_lsg r70), r20, hq78, fun H80 c79  => ?_⟩
        have r0 := Ty.ex r0 c79
        have r1 := Ty.fz r1 c79
        have r3 := Ty.fz r3 c79
        have r4 := Ty.ex r4 c79
        have r20 := Ty.ex r20 c79
        have r30 := Ty.ex r30 c79
        have c0 := c0.trans c79.none
        refine ⟨_, rfl, ?_⟩
        refine c_if (fun hb => ?_) (fun hb => ?_)
        ·
          replace hbe7 := Mi.ifT hb hbe7
          refine q_ret ?_
          refine c_val val_c ?_
          obtain rfl := Option.some.inj hbe7
          obtain rfl := Mi.or_inl hore7
          obtain rfl := Option.some.inj (Mi.orR_inl hm)
          exact hQ _ c0 
        replace hbe7 := Mi.ifF hb hbe7
        refine w_fall ?_
        refine w_nextJ ?_
        obtain rfl := Option.some.inj hbe7
        replace hore7 := Mi.or_inr hore7
        exact ⟨_, (some (.int x13)), (some v19), (some v29), rfl, c0, r0, r1, r3, r4, hore7⟩
      obtain ⟨s8, y9, y10, y11, rfl, c0, r0, r1, r3, r4, hle7⟩ := hp
      obtain rfl := Mi.forR_end hle7
      replace hm := Mi.orR_inr hm
      refine q_ret ?_
      refine c_val val_c ?_
      obtain rfl := Option.some.inj hm
      exact hQ _ c0 
abbrev s_law : Stmt := topS 48
abbrev N_law : List Str := ["_law_script", "_law_hand_here", "_law_sea_here", "_law_wide", "_law_horizon", "_law_other_horizon", "_law_count", "_law_notes", "_law_handed", "_law_chart_here", "_law_spot", "_law_note"]
theorem sc_law : FnScope ["_law_script", "_law_hand_here", "_law_sea_here", "_law_wide", "_law_horizon", "_law_other_horizon", "_law_count", "_law_notes", "_law_handed", "_law_chart_here", "_law_spot", "_law_note"] ["_law_script"] (defScope s_law) := ⟨rfl, rfl, rfl, by decide +kernel, rfl, by decide +kernel, by decide +kernel⟩
def sp_law (K : PySem.W.Frag) : Sp := fun vs H Q _ => ∃ (v0 : V) (d0 : (List Int)) (r : Bool), vs = [v0] ∧ yScr.rep K H [] v0 d0 ∧ Mi.m_law d0 = some r ∧ ∀ H', Chg ([]) H H' → Q (.bl r) H'
theorem ok_law (B : Bi mg) (CN : Cs K mg) (D : Dfn K mg "law" s_law) {C_Chart : Addr} (T_Chart : Tx K mg C_Chart "Chart" nm_Chart) {C_Report : Addr} (T_Report : Tx K mg C_Report "Report" nm_Report) (C_l_hand : Cal P w K mg "_law_hand" ["_law_script", "_law_k"] 1 (sp_l_hand K)) (C_l_pick : Cal P w K mg "_law_pick" ["_law_hand_here", "_law_size"] 1 (sp_l_pick K)) (C_l_sea : Cal P w K mg "_law_sea" ["_law_hand_here", "_law_most"] 3 (sp_l_sea K)) (C_l_chart : Cal P w K mg "_law_chart" ["_law_sea_here"] 5 (sp_l_chart K C_Chart)) (C_l_wild : Cal P w K mg "_law_wild" ["_law_hand_here", "_law_count", "_law_last", "_law_number"] 2 (sp_l_wild K)) (C_l_report : Cal P w K mg "_law_report" ["_law_code", "_law_note"] 4 (sp_l_report K C_Report)) (C_l_all_keep : Cal P w K mg "_law_all_keep" ["_law_handed", "_law_notes"] 3 (sp_l_all_keep K C_Report)) (C_l_corridors_hold : Cal P w K mg "_law_corridors_hold" ["_law_sea_here", "_law_chart_here", "_law_horizon", "_law_handed", "_law_notes"] 4 (sp_l_corridors_hold K C_Report C_Chart)) : Cal P w K mg "law" ["_law_script"] 6 (sp_law K) := by
  obtain ⟨f, fd, F, g⟩ := D.ex
  refine ⟨f, fd, g, F.kp, bindsF F (fun _ _ _ _ _ _ us hl => match us, hl with | [_], _ => rfl), fun base => F.ok sc_law (fun vs H Q E h => ?_) (fun cdv A outer s H0 vs Q E hr h => ?_)⟩
  · obtain ⟨v0, d0, r, rfl, r0, hm, hQ⟩ := h; rfl
  ·
    obtain ⟨v0, d0, r, rfl, r0, hm, hQ⟩ := h
    refine ⟨_, pss_cons (ps_set (i := 1) sc_law.nd rfl (.inr rfl) (pe_cc C_l_hand hr (pa_cons (pv 0) (pa_cons pe_int pa_nil))))
      (pss_cons (ps_set (i := 2) sc_law.nd rfl (.inl rfl) (pe_cc C_l_sea hr (pa_cons (pv 1) (pa_cons (pe_ix (ix_l (K := K)) (pe_lst (pa_cons pe_int (pa_cons pe_int (pa_cons pe_int (pa_cons pe_int (pa_cons pe_int (pa_cons pe_int (pa_cons pe_int (pa_cons pe_int pa_nil))))))))) (pe_cc C_l_pick hr (pa_cons (pv 1) (pa_cons pe_int pa_nil))) (fun _ _ => rfl)) pa_nil))))
      (pss_cons (ps_set (i := 3) sc_law.nd rfl (.inl rfl) (pe_tup (pa_cons (pe_lst (pa_cons pe_int (pa_cons pe_int (pa_cons pe_int (pa_cons pe_int (pa_cons pe_int (pa_cons pe_int (pa_cons pe_int (pa_cons pe_int (pa_cons pe_int (pa_cons pe_int (pa_cons pe_int (pa_cons pe_int pa_nil))))))))))))) (pa_cons (pe_lst (pa_cons (pe_tup (pa_cons pe_int (pa_cons pe_int pa_nil))) pa_nil)) (pa_cons (pe_ix (ix_t (K := K)) (pv 2) pe_int (fun _ _ => rfl)) (pa_cons (pe_lst pa_nil) pa_nil))))))
      (pss_cons (ps_set (i := 1) sc_law.nd rfl (.inr rfl) (pe_cc C_l_hand hr (pa_cons (pv 0) (pa_cons pe_int pa_nil))))
      (pss_cons (ps_set (i := 4) sc_law.nd rfl (.inl rfl) (pe_cc C_l_pick hr (pa_cons (pv 1) (pa_cons (pe_ix (ix_l (K := K)) (pe_lst (pa_cons pe_int (pa_cons pe_int (pa_cons pe_int (pa_cons pe_int (pa_cons pe_int (pa_cons pe_int (pa_cons pe_int (pa_cons pe_int pa_nil))))))))) (pe_cc C_l_pick hr (pa_cons (pv 1) (pa_cons pe_int pa_nil))) (fun _ _ => rfl)) pa_nil))))
      (pss_cons (ps_set (i := 5) sc_law.nd rfl (.inl rfl) (pe_cc C_l_pick hr (pa_cons (pv 1) (pa_cons pe_int pa_nil))))
      (pss_cons (ps_set (i := 1) sc_law.nd rfl (.inr rfl) (pe_cc C_l_hand hr (pa_cons (pv 0) (pa_cons pe_int pa_nil))))
      (pss_cons (ps_set (i := 6) sc_law.nd rfl (.inl rfl) (pe_cc C_l_pick hr (pa_cons (pv 1) (pa_cons (pe_ix (ix_l (K := K)) (pe_lst (pa_cons pe_int (pa_cons pe_int (pa_cons pe_int (pa_cons pe_int (pa_cons pe_int (pa_cons pe_int (pa_cons pe_int (pa_cons pe_int pa_nil))))))))) (pe_cc C_l_pick hr (pa_cons (pv 1) (pa_cons pe_int pa_nil))) (fun _ _ => rfl)) pa_nil))))
      (pss_cons (ps_set (i := 7) sc_law.nd rfl (.inl rfl) (pe_cc C_l_wild hr (pa_cons (pv 1) (pa_cons (pv 6) (pa_cons (pv 4) (pa_cons (pe_cc C_l_pick hr (pa_cons (pv 1) (pa_cons pe_int pa_nil))) pa_nil))))))
      (pss_cons (ps_set (i := 1) sc_law.nd rfl (.inr rfl) (pe_cc C_l_hand hr (pa_cons (pv 0) (pa_cons pe_int pa_nil))))
      (pss_cons (ps_setLc (i := 8) (own := [("_law_note", 11)]) rfl sc_law.nd rfl rfl (sw_true rfl rfl rfl (by decide +kernel)) (pi_list (pv 7)) (blkOk_by (own := [("_law_note", 11)]) (N := N_law) (sc := defScope s_law) (by decide +kernel)) (fun _ _ _ _ _ => (pg_name (i := 11) sc_law.nd rfl (.inl rfl))) (fun _ _ _ _ _ => pts_nil) (fun _ _ _ _ _ => (pe_cc C_l_report hr (pa_cons (pe_cc C_l_pick hr (pa_cons (pv 1) (pa_cons pe_int pa_nil))) (pa_cons (pv 11) pa_nil)))))
      (pss_cons (ps_set (i := 9) sc_law.nd rfl (.inl rfl) (pe_cc C_l_chart hr (pa_cons (pv 2) pa_nil)))
      (pss_cons (ps_if (PW.pt (pw_or (pt_not (pt_val (pe_cc C_l_all_keep hr (pa_cons (pv 8) (pa_cons (pv 7) pa_nil))))) (pw_or1 (pt_not (pt_val (pe_cc C_l_corridors_hold hr (pa_cons (pv 2) (pa_cons (pv 9) (pa_cons (pv 4) (pa_cons (pv 8) (pa_cons (pv 7) pa_nil))))))))))) (pss_cons (ps_ret pe_bl) pss_nil) (pss_nil))
      (pss_cons (ps_if (pt_not (pt_val (pe_cc C_l_corridors_hold hr (pa_cons (pv 3) (pa_cons (pe_cc C_l_chart hr (pa_cons (pv 3) pa_nil)) (pa_cons (pv 5) (pa_cons (pe_callTy (cl_tuple (K := K)) (by rfl) B.tuple (by decide +kernel) (pa_cons (pv 8) pa_nil)) (pa_cons (pv 7) pa_nil)))))))) (pss_cons (ps_ret pe_bl) pss_nil) (pss_nil))
      (pss_cons (ps_if (pt_cmpR op_gt (pe_callB (cl_len (K := K)) (by rfl) B.len PySem.boot_len (pa_cons (pv 7) pa_nil)) pe_int (nomark _)) (pss_cons (ps_set (i := 10) sc_law.nd rfl (.inl rfl) (pe_cc C_l_pick hr (pa_cons (pv 1) (pa_cons (pe_callB (cl_len (K := K)) (by rfl) B.len PySem.boot_len (pa_cons (pv 7) pa_nil)) pa_nil))))
      (pss_cons (ps_expr (pe_bm PySem.F.plainAttrs_list PySem.F.slot_list_pop PySem.F.type_list_pop mt_popAt (pv 7) (pa_cons (pv 10) pa_nil)))
      (pss_cons (ps_expr (pe_bm PySem.F.plainAttrs_list PySem.F.slot_list_pop PySem.F.type_list_pop mt_popAt (pv 8) (pa_cons (pv 10) pa_nil)))
      (pss_nil)))) (pss_nil))
      (pss_cons (ps_ret (pe_and (pe_cc C_l_corridors_hold hr (pa_cons (pv 2) (pa_cons (pv 9) (pa_cons (pv 4) (pa_cons (pv 8) (pa_cons (pv 7) pa_nil)))))) (pe_one (pe_cc C_l_all_keep hr (pa_cons (pv 8) (pa_cons (pv 7) pa_nil)))))) pss_nil))))))))))))))), ?_⟩
    have c0 : Chg ([] : List Addr) H0 H0 := Chg.refl H0
    unfold Mi.m_law at hm
    refine q_asg ?_
    refine w_call ?_
    refine w_args (va_cons (val_var rfl) (va_cons val_c va_nil)) ?_
    obtain ⟨q2, hq2, hm⟩ := Mi.bnd hm
    refine ⟨v0, d0, (0 : Int), q2, rfl, r0, hq2, fun v5 H4 F7 c3 r6 fr8  => ?_⟩
    have n9 : ∀ a ∈ F7, H0 a = none := fun a h => c0.dom a (fr8 a h)
    have r0 := Ty.fz r0 c3
    have c0 := c0.trans c3.none
    refine g_name (σ' := [some v0, some v5, none, none, none, none, none, none, none, none, none, none]) rfl ?_
    refine q_asg ?_
    refine w_call ?_
    refine w_cons ?_
    refine c_val (val_var rfl) ?_
    refine w_cons ?_
    refine w_op ?_
    refine w_lst ?_
    refine w_args (va_cons val_c (va_cons val_c (va_cons val_c (va_cons val_c (va_cons val_c (va_cons val_c (va_cons val_c (va_cons val_c va_nil)))))))) ?_
    refine e_lst (K := K) (τ := yInt) (by exact Nat.le_of_ble_eq_true rfl) (.cons yInt_i (.cons yInt_i (.cons yInt_i (.cons yInt_i (.cons yInt_i (.cons yInt_i (.cons yInt_i (.cons yInt_i .nil)))))))) fun p10 H14 np13 c11 r12 => ?_
    have d15 : Dj F7 [p10] := Ty.nin r6 np13
    have n16 : ∀ a ∈ [p10], H0 a = none := one_fresh (c0.dom p10 np13)
    have r0 := Ty.fz r0 c11
    have r6 := Ty.ex r6 c11
    have c0 := c0.trans c11.none
    refine w_call ?_
    refine w_args (va_cons (val_var rfl) (va_cons val_c va_nil)) ?_
    obtain ⟨q17, hq17, hm⟩ := Mi.bnd hm
    refine ⟨v5, F7, q2, (8 : Int), q17, rfl, r6, hq17, fun H19 c18 r6 => ?_⟩
    have r0 := Ty.fz r0 c18
    have r12 := Ty.chg r12 c18 d15.symm
    have c0 := c0.join c18 (fun a h => .inr (n9 a h))
    obtain ⟨x20, hx20, hm⟩ := Mi.bnd hm
    refine w_ixL r12 hx20 fun u21 r22 => ?_
    obtain ⟨_, rfl⟩ := r22
    refine w_nil ?_
    obtain ⟨q23, hq23, hm⟩ := Mi.bnd hm
    have r6_old := r6
    refine ⟨v5, F7, q17.2, x20, q23, rfl, r6, hq23, fun v26 H25 F28 c24 r27 fr29 r6 => ?_⟩
    have d30 : Dj F7 F28 := Ty.fresh r6_old fr29
    have n31 : ∀ a ∈ F28, H0 a = none := fun a h => c0.dom a (fr29 a h)
    have r0 := Ty.fz r0 c24
    have c0 := c0.join c24 (fun a h => .inr (n9 a h))
    refine g_name (σ' := [some v0, some v5, some v26, none, none, none, none, none, none, none, none, none]) rfl ?_
    refine q_asg ?_
    refine w_tup ?_
    refine w_cons ?_
    refine w_lst ?_
    refine w_args (va_cons val_c (va_cons val_c (va_cons val_c (va_cons val_c (va_cons val_c (va_cons val_c (va_cons val_c (va_cons val_c (va_cons val_c (va_cons val_c (va_cons val_c (va_cons val_c va_nil)))))))))))) ?_
    refine e_lst (K := K) (τ := yInt) (by exact Nat.le_of_ble_eq_true rfl) (.cons yInt_i (.cons yInt_i (.cons yInt_i (.cons yInt_i (.cons yInt_i (.cons yInt_i (.cons yInt_i (.cons yInt_i (.cons yInt_i (.cons yInt_i (.cons yInt_i (.cons yInt_i .nil)))))))))))) fun p32 H36 np35 c33 r34 => ?_
    have d37 : Dj F7 [p32] := Ty.nin r6 np35
    have d38 : Dj F28 [p32] := Ty.nin r27 np35
    have n39 : ∀ a ∈ [p32], H0 a = none := one_fresh (c0.dom p32 np35)
    have r0 := Ty.fz r0 c33
    have r6 := Ty.ex r6 c33
    have r27 := Ty.ex r27 c33
    have c0 := c0.trans c33.none
    refine w_cons ?_
    refine w_lst ?_
    refine w_cons ?_
    refine w_tup ?_
    refine w_args (va_cons val_c (va_cons val_c va_nil)) ?_
    refine e_tup (K := K) (ty := (sCons yInt (sOne yInt))) (F := []) (d := ((2 : Int), (7 : Int))) (by exact Nat.le_of_ble_eq_true rfl) ⟨_, _, _, _, rfl, rfl, yInt_i, ⟨_, rfl, yInt_i⟩⟩ fun p40 H44 np43 c41 r42 => ?_
    have r0 := Ty.fz r0 c41
    have r6 := Ty.ex r6 c41
    have r27 := Ty.ex r27 c41
    have r34 := Ty.ex r34 c41
    have c0 := c0.trans c41.none
    refine w_nil ?_
    refine e_lst (K := K) (τ := (yTup (sCons yInt (sOne yInt)))) (by exact Nat.le_of_ble_eq_true rfl) (.cons r42 .nil) fun p45 H49 np48 c46 r47 => ?_
    have d50 : Dj F7 [p45] := Ty.nin r6 np48
    have d51 : Dj F28 [p45] := Ty.nin r27 np48
    have d52 : Dj [p32] [p45] := Ty.nin r34 np48
    have n53 : ∀ a ∈ [p45], H0 a = none := one_fresh (c0.dom p45 np48)
    have r0 := Ty.fz r0 c46
    have r6 := Ty.ex r6 c46
    have r27 := Ty.ex r27 c46
    have r34 := Ty.ex r34 c46
    have r42 := Ty.fz r42 c46
    have c0 := c0.trans c46.none
    refine w_cons ?_
    obtain ⟨u54, F55, r56, su57, kx58, ku59⟩ := itm_tup (n := 2) (atS (atS at0)) r27
    have d60 : Dj F55 F7 := Dj.sub (d30.symm) su57
    have d61 : Dj F55 [p32] := Dj.sub (d38) su57
    have d62 : Dj F55 [p45] := Dj.sub (d51) su57
    have n63 : ∀ a ∈ F55, H0 a = none := fun a h => n31 a (su57 a h)
    refine c_val (ku59 (val_var rfl) val_c) ?_
    refine w_cons ?_
    refine w_lst ?_
    refine w_args va_nil ?_
    refine e_lst (K := K) (τ := yInt) (by exact Nat.le_of_ble_eq_true rfl) .nil fun p64 H68 np67 c65 r66 => ?_
    have d69 : Dj F7 [p64] := Ty.nin r6 np67
    have d70 : Dj F28 [p64] := Ty.nin r27 np67
    have d71 : Dj [p32] [p64] := Ty.nin r34 np67
    have d72 : Dj [p45] [p64] := Ty.nin r47 np67
    have d73 : Dj F55 [p64] := Ty.nin r56 np67
    have n74 : ∀ a ∈ [p64], H0 a = none := one_fresh (c0.dom p64 np67)
    have r0 := Ty.fz r0 c65
    have r6 := Ty.ex r6 c65
    have r27 := Ty.ex r27 c65
    have r34 := Ty.ex r34 c65
    have r47 := Ty.ex r47 c65
    have r56 := Ty.ex r56 c65
    have c0 := c0.trans c65.none
    refine w_nil ?_
    refine e_tup (K := K) (ty := (sCons (yLst yInt) (sCons (yLst (yTup (sCons yInt (sOne yInt)))) (sCons (yLst yInt) (sOne (yLst yInt)))))) (F := ([p32] ++ ([p45] ++ (F55 ++ [p64])))) (d := ([(0 : Int), (3 : Int), (0 : Int), (1 : Int), (0 : Int), (2 : Int), (0 : Int), (5 : Int), (0 : Int), (1 : Int), (0 : Int), (9 : Int)], [((2 : Int), (7 : Int))], q23.1.2.2.1, ([] : (List Int)))) (by exact Nat.le_of_ble_eq_true rfl) ⟨_, _, _, _, rfl, rfl, r34, ⟨_, _, _, _, rfl, rfl, r47, ⟨_, _, _, _, rfl, rfl, r56, ⟨_, rfl, r66⟩⟩⟩⟩ fun p75 H79 np78 c76 r77 => ?_
    have r0 := Ty.fz r0 c76
    have r6 := Ty.ex r6 c76
    have r27 := Ty.ex r27 c76
    have r34 := Ty.ex r34 c76
    have r47 := Ty.ex r47 c76
    have r56 := Ty.ex r56 c76
    have r66 := Ty.ex r66 c76
    have c0 := c0.trans c76.none
    have d80 : Dj ([p32] ++ ([p45] ++ (F55 ++ [p64]))) F7 := (Dj.app (d37.symm) ((Dj.app (d50.symm) ((Dj.app (d60) (d69.symm))))))
    refine g_name (σ' := [some v0, some v5, some v26, some (.ref p75), none, none, none, none, none, none, none, none]) rfl ?_
    refine q_asg ?_
    refine w_call ?_
    refine w_args (va_cons (val_var rfl) (va_cons val_c va_nil)) ?_
    obtain ⟨q81, hq81, hm⟩ := Mi.bnd hm
    refine ⟨v0, d0, (1 : Int), q81, rfl, r0, hq81, fun v84 H83 F86 c82 r85 fr87  => ?_⟩
    have d88 : Dj F7 F86 := Ty.fresh r6 fr87
    have d89 : Dj F28 F86 := Ty.fresh r27 fr87
    have d90 : Dj ([p32] ++ ([p45] ++ (F55 ++ [p64]))) F86 := Ty.fresh r77 fr87
    have n91 : ∀ a ∈ F86, H0 a = none := fun a h => c0.dom a (fr87 a h)
    have r0 := Ty.fz r0 c82
    have r6 := Ty.ex r6 c82
    have r27 := Ty.ex r27 c82
    have r77 := Ty.ex r77 c82
    have c0 := c0.trans c82.none
    refine g_name (σ' := [some v0, some v84, some v26, some (.ref p75), none, none, none, none, none, none, none, none]) rfl ?_
    refine q_asg ?_
    refine w_call ?_
    refine w_cons ?_
    refine c_val (val_var rfl) ?_
    refine w_cons ?_
    refine w_op ?_
    refine w_lst ?_
    refine w_args (va_cons val_c (va_cons val_c (va_cons val_c (va_cons val_c (va_cons val_c (va_cons val_c (va_cons val_c (va_cons val_c va_nil)))))))) ?_
    refine e_lst (K := K) (τ := yInt) (by exact Nat.le_of_ble_eq_true rfl) (.cons yInt_i (.cons yInt_i (.cons yInt_i (.cons yInt_i (.cons yInt_i (.cons yInt_i (.cons yInt_i (.cons yInt_i .nil)))))))) fun p92 H96 np95 c93 r94 => ?_
    have d97 : Dj F86 [p92] := Ty.nin r85 np95
    have d98 : Dj F28 [p92] := Ty.nin r27 np95
    have d99 : Dj ([p32] ++ ([p45] ++ (F55 ++ [p64]))) [p92] := Ty.nin r77 np95
    have n100 : ∀ a ∈ [p92], H0 a = none := one_fresh (c0.dom p92 np95)
    have r0 := Ty.fz r0 c93
    have r85 := Ty.ex r85 c93
    have r27 := Ty.ex r27 c93
    have r77 := Ty.ex r77 c93
    have c0 := c0.trans c93.none
    refine w_call ?_
    refine w_args (va_cons (val_var rfl) (va_cons val_c va_nil)) ?_
    obtain ⟨q101, hq101, hm⟩ := Mi.bnd hm
    refine ⟨v84, F86, q81, (8 : Int), q101, rfl, r85, hq101, fun H103 c102 r85 => ?_⟩
    have r0 := Ty.fz r0 c102
    have r27 := Ty.chg r27 c102 d89
    have r77 := Ty.chg r77 c102 d90
    have r94 := Ty.chg r94 c102 d97.symm
    have c0 := c0.join c102 (fun a h => .inr (n91 a h))
    obtain ⟨x104, hx104, hm⟩ := Mi.bnd hm
    refine w_ixL r94 hx104 fun u105 r106 => ?_
    obtain ⟨_, rfl⟩ := r106
    refine w_nil ?_
    obtain ⟨q107, hq107, hm⟩ := Mi.bnd hm
    refine ⟨v84, F86, q101.2, x104, q107, rfl, r85, hq107, fun H109 c108 r85 => ?_⟩
    have r0 := Ty.fz r0 c108
    have r27 := Ty.chg r27 c108 d89
    have r77 := Ty.chg r77 c108 d90
    have c0 := c0.join c108 (fun a h => .inr (n91 a h))
    refine g_name (σ' := [some v0, some v84, some v26, some (.ref p75), some (.int q107.1), none, none, none, none, none, none, none]) rfl ?_
    refine q_asg ?_
    refine w_call ?_
    refine w_args (va_cons (val_var rfl) (va_cons val_c va_nil)) ?_
    obtain ⟨q110, hq110, hm⟩ := Mi.bnd hm
    refine ⟨v84, F86, q107.2, (9 : Int), q110, rfl, r85, hq110, fun H112 c111 r85 => ?_⟩
    have r0 := Ty.fz r0 c111
    have r27 := Ty.chg r27 c111 d89
    have r77 := Ty.chg r77 c111 d90
    have c0 := c0.join c111 (fun a h => .inr (n91 a h))
    refine g_name (σ' := [some v0, some v84, some v26, some (.ref p75), some (.int q107.1), some (.int q110.1), none, none, none, none, none, none]) rfl ?_
    refine q_asg ?_
    refine w_call ?_
    refine w_args (va_cons (val_var rfl) (va_cons val_c va_nil)) ?_
    obtain ⟨q113, hq113, hm⟩ := Mi.bnd hm
    refine ⟨v0, d0, (2 : Int), q113, rfl, r0, hq113, fun v116 H115 F118 c114 r117 fr119  => ?_⟩
    have d120 : Dj F86 F118 := Ty.fresh r85 fr119
    have d121 : Dj F28 F118 := Ty.fresh r27 fr119
    have d122 : Dj ([p32] ++ ([p45] ++ (F55 ++ [p64]))) F118 := Ty.fresh r77 fr119
    have n123 : ∀ a ∈ F118, H0 a = none := fun a h => c0.dom a (fr119 a h)
    have r0 := Ty.fz r0 c114
    have r85 := Ty.ex r85 c114
    have r27 := Ty.ex r27 c114
    have r77 := Ty.ex r77 c114
    have c0 := c0.trans c114.none
    refine g_name (σ' := [some v0, some v116, some v26, some (.ref p75), some (.int q107.1), some (.int q110.1), none, none, none, none, none, none]) rfl ?_
    refine q_asg ?_
    refine w_call ?_
    refine w_cons ?_
    refine c_val (val_var rfl) ?_
    refine w_cons ?_
    refine w_op ?_
    refine w_lst ?_
    refine w_args (va_cons val_c (va_cons val_c (va_cons val_c (va_cons val_c (va_cons val_c (va_cons val_c (va_cons val_c (va_cons val_c va_nil)))))))) ?_
    refine e_lst (K := K) (τ := yInt) (by exact Nat.le_of_ble_eq_true rfl) (.cons yInt_i (.cons yInt_i (.cons yInt_i (.cons yInt_i (.cons yInt_i (.cons yInt_i (.cons yInt_i (.cons yInt_i .nil)))))))) fun p124 H128 np127 c125 r126 => ?_
    have d129 : Dj F118 [p124] := Ty.nin r117 np127
    have d130 : Dj F28 [p124] := Ty.nin r27 np127
    have d131 : Dj ([p32] ++ ([p45] ++ (F55 ++ [p64]))) [p124] := Ty.nin r77 np127
    have n132 : ∀ a ∈ [p124], H0 a = none := one_fresh (c0.dom p124 np127)
    have r0 := Ty.fz r0 c125
    have r117 := Ty.ex r117 c125
    have r27 := Ty.ex r27 c125
    have r77 := Ty.ex r77 c125
    have c0 := c0.trans c125.none
    refine w_call ?_
    refine w_args (va_cons (val_var rfl) (va_cons val_c va_nil)) ?_
    obtain ⟨q133, hq133, hm⟩ := Mi.bnd hm
    refine ⟨v116, F118, q113, (8 : Int), q133, rfl, r117, hq133, fun H135 c134 r117 => ?_⟩
    have r0 := Ty.fz r0 c134
    have r27 := Ty.chg r27 c134 d121
    have r77 := Ty.chg r77 c134 d122
    have r126 := Ty.chg r126 c134 d129.symm
    have c0 := c0.join c134 (fun a h => .inr (n123 a h))
    obtain ⟨x136, hx136, hm⟩ := Mi.bnd hm
    refine w_ixL r126 hx136 fun u137 r138 => ?_
    obtain ⟨_, rfl⟩ := r138
    refine w_nil ?_
    obtain ⟨q139, hq139, hm⟩ := Mi.bnd hm
    refine ⟨v116, F118, q133.2, x136, q139, rfl, r117, hq139, fun H141 c140 r117 => ?_⟩
    have r0 := Ty.fz r0 c140
    have r27 := Ty.chg r27 c140 d121
    have r77 := Ty.chg r77 c140 d122
    have c0 := c0.join c140 (fun a h => .inr (n123 a h))
    refine g_name (σ' := [some v0, some v116, some v26, some (.ref p75), some (.int q107.1), some (.int q110.1), some (.int q139.1), none, none, none, none, none]) rfl ?_
    refine q_asg ?_
    refine w_call ?_
    refine w_cons ?_
    refine c_val (val_var rfl) ?_
    refine w_cons ?_
    refine c_val (val_var rfl) ?_
    refine w_cons ?_
    refine c_val (val_var rfl) ?_
    refine w_cons ?_
    refine w_call ?_
    refine w_args (va_cons (val_var rfl) (va_cons val_c va_nil)) ?_
    obtain ⟨q142, hq142, hm⟩ := Mi.bnd hm
    refine ⟨v116, F118, q139.2, (4 : Int), q142, rfl, r117, hq142, fun H144 c143 r117 => ?_⟩
    have r0 := Ty.fz r0 c143
    have r27 := Ty.chg r27 c143 d121
    have r77 := Ty.chg r77 c143 d122
    have c0 := c0.join c143 (fun a h => .inr (n123 a h))
    refine w_nil ?_
    obtain ⟨q145, hq145, hm⟩ := Mi.bnd hm
    have r117_old := r117
    refine ⟨v116, F118, q142.2, q139.1, q107.1, q142.1, q145, rfl, r117, hq145, fun v148 H147 F150 c146 r149 fr151 r117 => ?_⟩
    have d152 : Dj F118 F150 := Ty.fresh r117_old fr151
    have d153 : Dj F28 F150 := Ty.fresh r27 fr151
    have d154 : Dj ([p32] ++ ([p45] ++ (F55 ++ [p64]))) F150 := Ty.fresh r77 fr151
    have n155 : ∀ a ∈ F150, H0 a = none := fun a h => c0.dom a (fr151 a h)
    have r0 := Ty.fz r0 c146
    have r27 := Ty.chg r27 c146 d121
    have r77 := Ty.chg r77 c146 d122
    have c0 := c0.join c146 (fun a h => .inr (n123 a h))
    refine g_name (σ' := [some v0, some v116, some v26, some (.ref p75), some (.int q107.1), some (.int q110.1), some (.int q139.1), some v148, none, none, none, none]) rfl ?_
    refine q_asg ?_
    refine w_call ?_
    refine w_args (va_cons (val_var rfl) (va_cons val_c va_nil)) ?_
    obtain ⟨q156, hq156, hm⟩ := Mi.bnd hm
    refine ⟨v0, d0, (3 : Int), q156, rfl, r0, hq156, fun v159 H158 F161 c157 r160 fr162  => ?_⟩
    have d163 : Dj F118 F161 := Ty.fresh r117 fr162
    have d164 : Dj F28 F161 := Ty.fresh r27 fr162
    have d165 : Dj ([p32] ++ ([p45] ++ (F55 ++ [p64]))) F161 := Ty.fresh r77 fr162
    have d166 : Dj F150 F161 := Ty.fresh r149 fr162
    have n167 : ∀ a ∈ F161, H0 a = none := fun a h => c0.dom a (fr162 a h)
    have r0 := Ty.fz r0 c157
    have r117 := Ty.ex r117 c157
    have r27 := Ty.ex r27 c157
    have r77 := Ty.ex r77 c157
    have r149 := Ty.ex r149 c157
    have c0 := c0.trans c157.none
    refine g_name (σ' := [some v0, some v159, some v26, some (.ref p75), some (.int q107.1), some (.int q110.1), some (.int q139.1), some v148, none, none, none, none]) rfl ?_
    refine q_asg ?_
    refine w_lc ?_
    refine w_iList ?_
    refine c_val (val_var rfl) ?_
    obtain ⟨e168, he168, hm⟩ := Mi.bnd hm
    refine kc_lsg (K := K) (τ := (yObj C_Report nm_Report ty_Report)) r149 (fun D170 i H' => ∃ (s169 : ((List (Int × Int × (List Int) × Int × Bool)) × (List Int))), Chg ([] : List Addr) H0 H' ∧ yScr.rep K H' [] v0 d0 ∧ (yLst yInt).rep K H' F161 v159 s169.2 ∧ (yTup (sCons (yLst yInt) (sCons (yLst (yTup (sCons yInt (sOne yInt)))) (sCons (yLst yInt) (sOne (yLst yInt)))))).rep K H' F28 v26 q23.1 ∧ (yTup (sCons (yLst yInt) (sCons (yLst (yTup (sCons yInt (sOne yInt)))) (sCons (yLst yInt) (sOne (yLst yInt)))))).rep K H' ([p32] ++ ([p45] ++ (F55 ++ [p64]))) (.ref p75) ([(0 : Int), (3 : Int), (0 : Int), (1 : Int), (0 : Int), (2 : Int), (0 : Int), (5 : Int), (0 : Int), (1 : Int), (0 : Int), (9 : Int)], [((2 : Int), (7 : Int))], q23.1.2.2.1, ([] : (List Int))) ∧ (yLsg (yTup (sCons yInt (sCons yInt (sCons (yLst yInt) (sCons yInt (sOne yBool))))))).rep K H' F150 v148 q145.1 ∧ (yLst (yObj C_Report nm_Report ty_Report)).rep K H' [D170] (.ref D170) s169.1 ∧ Dj F161 [D170] ∧ Dj F28 [D170] ∧ Dj ([p32] ++ ([p45] ++ (F55 ++ [p64]))) [D170] ∧ Dj F150 [D170] ∧ (∀ a ∈ [D170], H0 a = none) ∧ Mi.forN (Mi.m_law_b1) s169 (List.drop i q145.1) = some e168) (fun D170 H180 np179 c178 r171 => ⟨(([] : (List (Int × Int × (List Int) × Int × Bool))), q156), c0.trans c178.none, (Ty.fz r0 c178), (Ty.ex r160 c178), (Ty.ex r27 c178), (Ty.ex r77 c178), (Ty.ex r149 c178), r171, Ty.nin r160 np179, Ty.nin r27 np179, Ty.nin r77 np179, Ty.nin r149 np179, one_fresh (c0.dom D170 np179), he168⟩) (fun D170 i H' hp => by obtain ⟨s169, c0, r0, r160, r27, r77, r149, r171, d172, d173, d174, d175, n177, _⟩ := hp; exact r149) (fun D170 i183 x182 u185 F187 H184 hx181 r186 su188 hp => ?_) (fun D170 H' np179 hp => ?_)
    ·
      obtain ⟨s169, c0, r0, r160, r27, r77, r149, r171, d172, d173, d174, d175, n177, hle168⟩ := hp
      obtain ⟨_, hbe168, hle168⟩ := Mi.forN_go hle168 hx181
      unfold Mi.m_law_b1 at hbe168
      have d191 : Dj F187 F161 := Dj.sub (d166) su188
      have d192 : Dj F187 F28 := Dj.sub (d153.symm) su188
      have d193 : Dj F187 ([p32] ++ ([p45] ++ (F55 ++ [p64]))) := Dj.sub (d154.symm) su188
      have d194 : Dj F187 [D170] := Dj.sub (d175) su188
      have n195 : ∀ a ∈ F187, H0 a = none := fun a h => n155 a (su188 a h)
      refine g_name (σ' := [some v0, some v159, some v26, some (.ref p75), some (.int q107.1), some (.int q110.1), some (.int q139.1), some v148, none, none, none, some u185]) rfl ?_
      refine ⟨rfl, ?_⟩
      refine w_yes ?_
      refine iteT ?_
      refine w_call ?_
      refine w_cons ?_
      refine w_call ?_
      refine w_args (va_cons (val_var rfl) (va_cons val_c va_nil)) ?_
      obtain ⟨q196, hq196, hbe168⟩ := Mi.bnd hbe168
      refine ⟨v159, F161, s169.2, (48 : Int), q196, rfl, r160, hq196, fun H198 c197 r160 => ?_⟩
      have r0 := Ty.fz r0 c197
      have r27 := Ty.chg r27 c197 d164
      have r77 := Ty.chg r77 c197 d165
      have r149 := Ty.chg r149 c197 d166
      have r186 := Ty.chg r186 c197 d191
      have r171 := Ty.chg r171 c197 d172.symm
      have c0 := c0.join c197 (fun a h => .inr (n167 a h))
      refine w_cons ?_
      refine c_val (val_var rfl) ?_
      refine w_nil ?_
      obtain ⟨q199, hq199, hbe168⟩ := Mi.bnd hbe168
      refine ⟨q196.1, u185, F187, x182, q199, rfl, r186, hq199, fun v202 H201 c200 r203  => ?_⟩
      have r0 := Ty.fz r0 c200
      have r160 := Ty.ex r160 c200
      have r27 := Ty.ex r27 c200
      have r77 := Ty.ex r77 c200
      have r149 := Ty.ex r149 c200
      have r186 := Ty.ex r186 c200
      have r171 := Ty.ex r171 c200
      have c0 := c0.trans c200.none
      obtain ⟨x204, hx204, hbe168⟩ := Mi.bnd hbe168
      refine e_app r171 r203 hx204 fun H206 c205 r171 => ?_
      have r0 := Ty.fz r0 c205
      have r160 := Ty.chg r160 c205 d172
      have r27 := Ty.chg r27 c205 d173
      have r77 := Ty.chg r77 c205 d174
      have r149 := Ty.chg r149 c205 d175
      have r186 := Ty.chg r186 c205 d194
      have c0 := c0.join c205 (fun a h => .inr (n177 a h))
      obtain rfl := Option.some.inj hbe168
      exact ⟨(x204, q196.2), c0, r0, r160, r27, r77, r149, r171, d172, d173, d174, d175, n177, hle168⟩
    obtain ⟨s169, c0, r0, r160, r27, r77, r149, r171, d172, d173, d174, d175, n177, hle168⟩ := hp
    obtain rfl := Mi.forN_end hle168
    refine g_name (σ' := [some v0, some v159, some v26, some (.ref p75), some (.int q107.1), some (.int q110.1), some (.int q139.1), some v148, some (.ref D170), none, none, none]) rfl ?_
    refine q_asg ?_
    refine w_call ?_
    refine w_args (va_cons (val_var rfl) va_nil) ?_
    obtain ⟨q207, hq207, hm⟩ := Mi.bnd hm
    refine ⟨v26, F28, q23.1, q207, rfl, r27, hq207, fun v210 H209 c208 r211  => ?_⟩
    have r0 := Ty.fz r0 c208
    have r160 := Ty.ex r160 c208
    have r27 := Ty.ex r27 c208
    have r77 := Ty.ex r77 c208
    have r149 := Ty.ex r149 c208
    have r171 := Ty.ex r171 c208
    have c0 := c0.trans c208.none
    refine g_name (σ' := [some v0, some v159, some v26, some (.ref p75), some (.int q107.1), some (.int q110.1), some (.int q139.1), some v148, some (.ref D170), some v210, none, none]) rfl ?_
    refine q_ifS ?_
    obtain ⟨b212, hb212, hm⟩ := Mi.bnd hm
    refine j_tt b212 (R := fun H' => Chg ([] : List Addr) H0 H' ∧ yScr.rep K H' [] v0 d0 ∧ (yLst yInt).rep K H' F161 v159 s169.2 ∧ (yTup (sCons (yLst yInt) (sCons (yLst (yTup (sCons yInt (sOne yInt)))) (sCons (yLst yInt) (sOne (yLst yInt)))))).rep K H' F28 v26 q23.1 ∧ (yTup (sCons (yLst yInt) (sCons (yLst (yTup (sCons yInt (sOne yInt)))) (sCons (yLst yInt) (sOne (yLst yInt)))))).rep K H' ([p32] ++ ([p45] ++ (F55 ++ [p64]))) (.ref p75) ([(0 : Int), (3 : Int), (0 : Int), (1 : Int), (0 : Int), (2 : Int), (0 : Int), (5 : Int), (0 : Int), (1 : Int), (0 : Int), (9 : Int)], [((2 : Int), (7 : Int))], q23.1.2.2.1, ([] : (List Int))) ∧ (yLsg (yTup (sCons yInt (sCons yInt (sCons (yLst yInt) (sCons yInt (sOne yBool))))))).rep K H' F150 v148 q145.1 ∧ (yLst (yObj C_Report nm_Report ty_Report)).rep K H' [D170] (.ref D170) s169.1 ∧ (yObj C_Chart nm_Chart ty_Chart).rep K H' [] v210 q207) (fun Q' kq => ?_) (fun H' hj => ?_)
    ·
      refine w_or ?_
      refine w_not ?_
      refine w_B ?_
      refine w_call ?_
      refine w_args (va_cons (val_var rfl) (va_cons (val_var rfl) va_nil)) ?_
      obtain ⟨q213, hq213, hb212⟩ := Mi.bnd hb212
      refine ⟨(.ref D170), [D170], s169.1, v148, F150, q145.1, q213, rfl, r171, r149, hq213, fun H215 c214  => ?_⟩
      have r0 := Ty.fz r0 c214
      have r160 := Ty.ex r160 c214
      have r27 := Ty.ex r27 c214
      have r77 := Ty.ex r77 c214
      have r149 := Ty.ex r149 c214
      have r171 := Ty.ex r171 c214
      have r211 := Ty.fz r211 c214
      have c0 := c0.trans c214.none
      refine ⟨_, rfl, ?_⟩
      refine c_if (fun hb => ?_) (fun hb => ?_)
      ·
        replace hb212 := Mi.ifT hb hb212
        obtain rfl := Option.some.inj hb212
        exact kq _ ⟨c0, r0, r160, r27, r77, r149, r171, r211⟩
      replace hb212 := Mi.ifF hb hb212
      refine w_not ?_
      refine w_B ?_
      refine w_call ?_
      refine w_args (va_cons (val_var rfl) (va_cons (val_var rfl) (va_cons (val_var rfl) (va_cons (val_var rfl) (va_cons (val_var rfl) va_nil))))) ?_
      obtain ⟨q216, hq216, hb212⟩ := Mi.bnd hb212
      refine Or.inl ⟨v26, F28, q23.1, v210, q207, q107.1, (.ref D170), [D170], s169.1, v148, F150, q145.1, q216, rfl, r27, r211, r171, r149, hq216, fun H218 c217  => ?_⟩
      have r0 := Ty.fz r0 c217
      have r160 := Ty.ex r160 c217
      have r27 := Ty.ex r27 c217
      have r77 := Ty.ex r77 c217
      have r149 := Ty.ex r149 c217
      have r171 := Ty.ex r171 c217
      have r211 := Ty.fz r211 c217
      have c0 := c0.trans c217.none
      refine ⟨_, rfl, ?_⟩
      obtain rfl := Option.some.inj hb212
      exact kq _ ⟨c0, r0, r160, r27, r77, r149, r171, r211⟩
    obtain ⟨c0, r0, r160, r27, r77, r149, r171, r211⟩ := hj
    refine c_if (fun hb => ?_) (fun hb => ?_)
    ·
      replace hm := Mi.ifT hb hm
      refine q_ret ?_
      refine c_val val_c ?_
      obtain rfl := Option.some.inj hm
      exact hQ _ c0 
    replace hm := Mi.ifF hb hm
    refine w_fall ?_
    refine q_ifS ?_
    refine w_not ?_
    refine w_B ?_
    refine w_call ?_
    refine w_cons ?_
    refine c_val (val_var rfl) ?_
    refine w_cons ?_
    refine w_call ?_
    refine w_args (va_cons (val_var rfl) va_nil) ?_
    obtain ⟨q219, hq219, hm⟩ := Mi.bnd hm
    refine ⟨(.ref p75), ([p32] ++ ([p45] ++ (F55 ++ [p64]))), ([(0 : Int), (3 : Int), (0 : Int), (1 : Int), (0 : Int), (2 : Int), (0 : Int), (5 : Int), (0 : Int), (1 : Int), (0 : Int), (9 : Int)], [((2 : Int), (7 : Int))], q23.1.2.2.1, ([] : (List Int))), q219, rfl, r77, hq219, fun v222 H221 c220 r223  => ?_⟩
    have r0 := Ty.fz r0 c220
    have r160 := Ty.ex r160 c220
    have r27 := Ty.ex r27 c220
    have r77 := Ty.ex r77 c220
    have r149 := Ty.ex r149 c220
    have r171 := Ty.ex r171 c220
    have r211 := Ty.fz r211 c220
    have c0 := c0.trans c220.none
    refine w_cons ?_
    refine c_val (val_var rfl) ?_
    refine w_cons ?_
    refine w_cb ?_
    refine w_args (va_cons (val_var rfl) va_nil) ?_
    refine w_tupleL r171 fun v224 H225 c226 r227 => ?_
    have r0 := Ty.fz r0 c226
    have r160 := Ty.ex r160 c226
    have r27 := Ty.ex r27 c226
    have r77 := Ty.ex r77 c226
    have r149 := Ty.ex r149 c226
    have r171 := Ty.ex r171 c226
    have r211 := Ty.fz r211 c226
    have r223 := Ty.fz r223 c226
    have c0 := c0.trans c226.none
    refine w_cons ?_
    refine c_val (val_var rfl) ?_
    refine w_nil ?_
    obtain ⟨q228, hq228, hm⟩ := Mi.bnd hm
    refine Or.inr (⟨(.ref p75), ([p32] ++ ([p45] ++ (F55 ++ [p64]))), ([(0 : Int), (3 : Int), (0 : Int), (1 : Int), (0 : Int), (2 : Int), (0 : Int), (5 : Int), (0 : Int), (1 : Int), (0 : Int), (9 : Int)], [((2 : Int), (7 : Int))], q23.1.2.2.1, ([] : (List Int))), v222, q219, q110.1, v224, s169.1, v148, F150, q145.1, q228, rfl, r77, r223, r227, r149, hq228, fun H230 c229  => ?_⟩)
    have r0 := Ty.fz r0 c229
    have r160 := Ty.ex r160 c229
    have r27 := Ty.ex r27 c229
    have r77 := Ty.ex r77 c229
    have r149 := Ty.ex r149 c229
    have r171 := Ty.ex r171 c229
    have r211 := Ty.fz r211 c229
    have c0 := c0.trans c229.none
    refine ⟨_, rfl, ?_⟩
    refine c_if (fun hb => ?_) (fun hb => ?_)
    ·
      replace hm := Mi.ifT hb hm
      refine q_ret ?_
      refine c_val val_c ?_
      obtain rfl := Option.some.inj hm
      exact hQ _ c0 
    replace hm := Mi.ifF hb hm
    refine w_fall ?_
    obtain ⟨s231, hs231, hm⟩ := Mi.bnd hm
    refine s_join (R := fun σ' H' => ∃ (y236 : Option V) (v232 : V) (F234 : List Addr), σ' = [some v0, some v159, some v26, some (.ref p75), some (.int q107.1), some (.int q110.1), some (.int q139.1), some v232, some (.ref D170), some v210, y236, none] ∧ Chg ([] : List Addr) H0 H' ∧ yScr.rep K H' [] v0 d0 ∧ (yTup (sCons (yLst yInt) (sCons (yLst (yTup (sCons yInt (sOne yInt)))) (sCons (yLst yInt) (sOne (yLst yInt)))))).rep K H' F28 v26 q23.1 ∧ (yTup (sCons (yLst yInt) (sCons (yLst (yTup (sCons yInt (sOne yInt)))) (sCons (yLst yInt) (sOne (yLst yInt)))))).rep K H' ([p32] ++ ([p45] ++ (F55 ++ [p64]))) (.ref p75) ([(0 : Int), (3 : Int), (0 : Int), (1 : Int), (0 : Int), (2 : Int), (0 : Int), (5 : Int), (0 : Int), (1 : Int), (0 : Int), (9 : Int)], [((2 : Int), (7 : Int))], q23.1.2.2.1, ([] : (List Int))) ∧ (yLsg (yTup (sCons yInt (sCons yInt (sCons (yLst yInt) (sCons yInt (sOne yBool))))))).rep K H' F234 v232 s231.1 ∧ (yLst (yObj C_Report nm_Report ty_Report)).rep K H' [D170] (.ref D170) s231.2 ∧ (yObj C_Chart nm_Chart ty_Chart).rep K H' [] v210 q207 ∧ (∀ a ∈ F234, H0 a = none) ∧ Dj F234 F28 ∧ Dj F234 ([p32] ++ ([p45] ++ (F55 ++ [p64]))) ∧ Dj F234 [D170]) (fun nx kx => ?_) (fun σ' H' hj => ?_)
    ·
      refine s_if (ans_t (val_gt (val_lenG r149 (val_var rfl)) val_c)) (fun hb => ?_) (fun hb => ?_)
      ·
        replace hs231 := Mi.ifT hb hs231
        refine q_asg ?_
        refine w_call ?_
        refine w_args (va_cons (val_var rfl) (va_cons (val_lenG r149 (val_var rfl)) va_nil)) ?_
        obtain ⟨q240, hq240, hs231⟩ := Mi.bnd hs231
        refine ⟨v159, F161, s169.2, (q145.1.length : Int), q240, rfl, r160, hq240, fun H242 c241 r160 => ?_⟩
        have r0 := Ty.fz r0 c241
        have r27 := Ty.chg r27 c241 d164
        have r77 := Ty.chg r77 c241 d165
        have r149 := Ty.chg r149 c241 d166
        have r171 := Ty.chg r171 c241 d172.symm
        have r211 := Ty.fz r211 c241
        have c0 := c0.join c241 (fun a h => .inr (n167 a h))
        refine g_name (σ' := [some v0, some v159, some v26, some (.ref p75), some (.int q107.1), some (.int q110.1), some (.int q139.1), some v148, some (.ref D170), some v210, some (.int q240.1), none]) rfl ?_
        refine q_drop (w_bm (c_val (val_var rfl) ⟨tyv_lsg r149, ?_⟩))
        refine w_args (va_cons (val_var rfl) va_nil) ?_
        obtain ⟨z243, hz243, hs231⟩ := Mi.bnd hs231
        obtain ⟨x244, hx244, hs231⟩ := Mi.bnd hs231
        refine m_popAtG r149 hx244 (of_guard hz243) fun u247 H246 F249 c245 r248 su250 r149 => ?_
        have r0 := Ty.fz r0 c245
        have r160 := Ty.chg r160 c245 d166.symm
        have r27 := Ty.chg r27 c245 d153
        have r77 := Ty.chg r77 c245 d154
        have r171 := Ty.chg r171 c245 d175.symm
        have r211 := Ty.fz r211 c245
        have c0 := c0.join c245 (fun a h => .inr (n155 a h))
        refine q_drop (w_bm (c_val (val_var rfl) ⟨tyv_lst r171, ?_⟩))
        refine w_args (va_cons (val_var rfl) va_nil) ?_
        obtain ⟨z251, hz251, hs231⟩ := Mi.bnd hs231
        obtain ⟨x252, hx252, hs231⟩ := Mi.bnd hs231
        refine m_popAt r171 hx252 (of_guard hz251) fun u255 H254 c253 r256 r171 => ?_
        have r0 := Ty.fz r0 c253
        have r160 := Ty.chg r160 c253 d172
        have r27 := Ty.chg r27 c253 d173
        have r77 := Ty.chg r77 c253 d174
        have r149 := Ty.chg r149 c253 d175
        have r211 := Ty.fz r211 c253
        have c0 := c0.join c253 (fun a h => .inr (n177 a h))
        refine w_nextJ ?_
        obtain rfl := Option.some.inj hs231
        exact kx _ _ ⟨(some (.int q240.1)), v148, F150, rfl, c0, r0, r27, r77, r149, r171, r211, n155, d153.symm, d154.symm, d175⟩
      ·
        replace hs231 := Mi.ifF hb hs231
        refine w_nextJ ?_
        obtain rfl := Option.some.inj hs231
        exact kx _ _ ⟨none, v148, F150, rfl, c0, r0, r27, r77, r149, r171, r211, n155, d153.symm, d154.symm, d175⟩
    obtain ⟨y236, v232, F234, rfl, c0, r0, r27, r77, r233, r171, r211, n235, d237, d238, d239⟩ := hj
    refine q_ret ?_
    obtain ⟨b257, hb257, hm⟩ := Mi.bnd hm
    refine j_te (.bl b257) (R := fun H' => Chg ([] : List Addr) H0 H' ∧ yScr.rep K H' [] v0 d0 ∧ (yTup (sCons (yLst yInt) (sCons (yLst (yTup (sCons yInt (sOne yInt)))) (sCons (yLst yInt) (sOne (yLst yInt)))))).rep K H' F28 v26 q23.1 ∧ (yTup (sCons (yLst yInt) (sCons (yLst (yTup (sCons yInt (sOne yInt)))) (sCons (yLst yInt) (sOne (yLst yInt)))))).rep K H' ([p32] ++ ([p45] ++ (F55 ++ [p64]))) (.ref p75) ([(0 : Int), (3 : Int), (0 : Int), (1 : Int), (0 : Int), (2 : Int), (0 : Int), (5 : Int), (0 : Int), (1 : Int), (0 : Int), (9 : Int)], [((2 : Int), (7 : Int))], q23.1.2.2.1, ([] : (List Int))) ∧ (yLsg (yTup (sCons yInt (sCons yInt (sCons (yLst yInt) (sCons yInt (sOne yBool))))))).rep K H' F234 v232 s231.1 ∧ (yLst (yObj C_Report nm_Report ty_Report)).rep K H' [D170] (.ref D170) s231.2 ∧ (yObj C_Chart nm_Chart ty_Chart).rep K H' [] v210 q207) (fun Q' kq => ?_) (fun H' hj => ?_)
    ·
      refine w_andV ?_
      refine w_call ?_
      refine w_args (va_cons (val_var rfl) (va_cons (val_var rfl) (va_cons (val_var rfl) (va_cons (val_var rfl) (va_cons (val_var rfl) va_nil))))) ?_
      obtain ⟨q258, hq258, hb257⟩ := Mi.bnd hb257
      refine Or.inl ⟨v26, F28, q23.1, v210, q207, q107.1, (.ref D170), [D170], s231.2, v232, F234, s231.1, q258, rfl, r27, r211, r171, r233, hq258, fun H260 c259  => ?_⟩
      have r0 := Ty.fz r0 c259
      have r27 := Ty.ex r27 c259
      have r77 := Ty.ex r77 c259
      have r233 := Ty.ex r233 c259
      have r171 := Ty.ex r171 c259
      have r211 := Ty.fz r211 c259
      have c0 := c0.trans c259.none
      refine ⟨_, rfl, ?_⟩
      refine c_if (fun hb => ?_) (fun hb => ?_)
      rotate_left
      ·
        replace hb257 := Mi.ifF hb hb257
        obtain rfl := Option.some.inj hb257
        exact kq _ ⟨c0, r0, r27, r77, r233, r171, r211⟩
      replace hb257 := Mi.ifT hb hb257
      refine w_call ?_
      refine w_args (va_cons (val_var rfl) (va_cons (val_var rfl) va_nil)) ?_
      obtain ⟨q261, hq261, hb257⟩ := Mi.bnd hb257
      refine ⟨(.ref D170), [D170], s231.2, v232, F234, s231.1, q261, rfl, r171, r233, hq261, fun H263 c262  => ?_⟩
      have r0 := Ty.fz r0 c262
      have r27 := Ty.ex r27 c262
      have r77 := Ty.ex r77 c262
      have r233 := Ty.ex r233 c262
      have r171 := Ty.ex r171 c262
      have r211 := Ty.fz r211 c262
      have c0 := c0.trans c262.none
      obtain rfl := Option.some.inj hb257
      exact kq _ ⟨c0, r0, r27, r77, r233, r171, r211⟩
    obtain ⟨c0, r0, r27, r77, r233, r171, r211⟩ := hj
    obtain rfl := Option.some.inj hm
    exact hQ _ c0 
end
end G

set_option maxHeartbeats 0
namespace G
open PySem PySem.Spec PyProof.Rows L2
theorem fun_of {K : PySem.W.Frag} {x q : Str} {st : Stmt} {f : Addr} {fd : FuncData} (F : FunD K x q (defArgs st) (defBody st) (defScope st) [] [] f fd) : Fun K x q st f fd := by
  obtain ⟨oc, od, dV, kV, doc, pm, an, cdv, ct, osl, e, lk, hcd, hd, _⟩ := F.ex
  rcases hd with ⟨_, rfl⟩ | ⟨z, _⟩
  · exact ⟨⟨oc, od, kV, doc, pm, an, cdv, ct, osl, e, lk, hcd⟩, F.kp⟩
  · exact absurd rfl z
def dOf (x : Str) (i : Nat) : He.DefD := ⟨(x, none), x, x, defArgs (topS i), defBody (topS i), defScope (topS i), [], []⟩
def dOfD (x : Str) (i : Nat) (dv : List He.Dv) : He.DefD := ⟨(x, none), x, x, defArgs (topS i), defBody (topS i), defScope (topS i), dv, []⟩
def dOfM (c m qual : Str) (st : Stmt) (kw : List (Str × He.Dv)) : He.DefD := ⟨(c, some m), m, qual, defArgs st, defBody st, defScope st, [], kw⟩
def fnL : List He.DefD := [dOf "ascending" 6, dOf "is_zone" 7, dOfM "Report" "__init__" "Report.__init__" s_Report_init [("weight", .int 1), ("inside", .bl true)], dOfM "Report" "allows" "Report.allows" s_Report_allows [], dOf "allowed_by_all" 14, dOf "corridor_of" 15, dOf "good_numbers" 21, dOf "good_depths" 22, dOf "good_lanes" 23, dOf "good_tide" 24, dOf "good_harbours" 25, dOf "ordered_lanes" 26, dOf "joined_places" 27, dOfM "Chart" "__init__" "Chart.__init__" s_Chart_init [("tide", .adr (kwdAt ("Chart", some "__init__") "tide")), ("harbours", .adr (kwdAt ("Chart", some "__init__") "harbours"))], dOfM "Chart" "neighbours" "Chart.neighbours" s_Chart_neighbours [], dOf "_law_hand" 30, dOf "_law_pick" 31, dOf "_law_int" 32, dOf "_law_some" 33, dOf "_law_sea" 34, dOf "_law_chart" 35, dOf "_law_corridor" 36, dOf "_law_places" 37, dOf "_law_turned" 38, dOf "_law_wild" 39, dOf "_law_flag" 40, dOf "_law_report" 41, dOf "_law_keeps" 42, dOf "_law_all_keep" 43, dOf "_law_is_zone" 44, dOf "_law_are_zones" 45, dOf "_law_all_fresh" 46, dOf "_law_corridors_hold" 47, dOf "law" 48]
def faL : List He.Fa := [.glo "ascending", .glo "is_zone", .mkr "Report", .meth "Report" "allows", .glo "allowed_by_all", .glo "corridor_of", .glo "good_numbers", .glo "good_depths", .glo "good_lanes", .glo "good_tide", .glo "good_harbours", .glo "ordered_lanes", .glo "joined_places", .mkr "Chart", .meth "Chart" "neighbours", .glo "_law_hand", .glo "_law_pick", .glo "_law_int", .glo "_law_some", .glo "_law_sea", .glo "_law_chart", .glo "_law_corridor", .glo "_law_places", .glo "_law_turned", .glo "_law_wild", .glo "_law_flag", .glo "_law_report", .glo "_law_keeps", .glo "_law_all_keep", .glo "_law_is_zone", .glo "_law_are_zones", .glo "_law_all_fresh", .glo "_law_corridors_hold", .glo "law", .free "len", .free "range", .free "int", .free "bool", .free "isinstance", .free "max", .free "min", .free "list", .free "tuple", .free "sorted", .free "set", .free "enumerate", .free "zip", .free "reversed", .free "sum", .free "any", .free "all", .free "str", .int "GREATEST_DEPTH" 99, .int "GREATEST_TIDE" 20, .int "LAST_HOUR" 24, .int "LAST_SHIP" 3, .int "MOST_PLACES" 12, .int "MOST_TIDE_NUMBERS" 12, .int "MOST_WEIGHT" 99, .int "PLACES" 12, .glo "Report", .cls "Report", .noat "Report" "ship", .noat "Report" "hour", .noat "Report" "zone", .noat "Report" "weight", .noat "Report" "inside", .glo "Chart", .cls "Chart", .noat "Chart" "size", .noat "Chart" "depths", .noat "Chart" "lanes", .noat "Chart" "tide", .noat "Chart" "harbours", .noat "Chart" "joined"]
abbrev R : PySem.W.OpenRow := PySem.W.OpenLaw.row PySem.Challenge.rw_fogfleet_k16_corridor_of_reports
def exL (K : PySem.W.Frag) : Bool := tupAt K (kwdAt ("Chart", some "__init__") "tide" K) (([0] : List Int).map He.Dv.int) && tupAt K (kwdAt ("Chart", some "__init__") "harbours" K) (([] : List Int).map He.Dv.int)
abbrev hk : PySem.W.Hook := hookE 6 faL fnL exL
def ob (s : PySem.W.SharedT) : He.AlD × Bool := obsEG 6 faL fnL exL (HandSHeadRun.getT s)
theorem ob_eq (s : PySem.W.SharedT) : ob s = hk.obs s.abs := obsEG_eq (HandSHeadRun.getT_eq s)
def looseL : List Str := (["_wall", "FleetError", "InvalidChart", "InvalidReport", "ascending", "is_zone", "LAST_SHIP", "LAST_HOUR", "PLACES", "MOST_WEIGHT", "Report", "allowed_by_all", "corridor_of", "MOST_PLACES", "GREATEST_DEPTH", "MOST_TIDE_NUMBERS", "GREATEST_TIDE", "good_numbers", "good_depths", "good_lanes"] : List Str) ++ (["good_tide", "good_harbours", "ordered_lanes", "joined_places", "Chart", "_law_hand", "_law_pick", "_law_int", "_law_some", "_law_sea", "_law_chart", "_law_corridor", "_law_places", "_law_turned", "_law_wild", "_law_flag", "_law_report", "_law_keeps", "_law_all_keep", "_law_is_zone"] : List Str) ++ (["_law_are_zones", "_law_all_fresh", "_law_corridors_hold"] : List Str)
theorem run (w : World) : HandSHeadRun.RunEq R (PySem.W.view R.prog [48]) hk ob 6000 looseL w := by
  intro os
  kernel_rfl
theorem dfn_of {K : PySem.W.Frag} {h : Heap} {mg : Str → Option Value} (X : K.In h) (G : h.Ns mainGlobals mg) (c : He.SaysD faL fnL K) (i j k : Nat) (x : Str) (hi : fnL[i]? = some (dOf x k)) (hj : faL[j]? = some (.glo x)) : Dfn K mg x (topS k) := by
  obtain ⟨fd, F⟩ := c.def_ i hi
  exact ⟨⟨_, fd, fun_of F, He.glo_ok X G (c.fact j hj)⟩⟩
theorem dfnD_of {K : PySem.W.Frag} {h : Heap} {mg : Str → Option Value} (X : K.In h) (G : h.Ns mainGlobals mg) (c : He.SaysD faL fnL K) (i j k : Nat) (x : Str) (dv : List He.Dv) (hi : fnL[i]? = some (dOfD x k dv)) (hj : faL[j]? = some (.glo x)) : DfnD K mg x (topS k) (dv.map (He.Dv.v K)) := by
  obtain ⟨fd, F⟩ := c.def_ i hi
  exact ⟨⟨_, fd, F, He.glo_ok X G (c.fact j hj)⟩⟩
theorem dfnM_of {K : PySem.W.Frag} (c : He.SaysD faL fnL K) (i j : Nat) (C m qual : Str) (st : Stmt) (hi : fnL[i]? = some (dOfM C m qual st [])) (hj : faL[j]? = some (.meth C m)) : DfnM K (He.ga K C) m qual st := by
  obtain ⟨fd, F⟩ := c.def_ i hi
  exact ⟨⟨_, fd, fun_of F, He.meth_ok (c.fact j hj)⟩⟩
theorem dfnI_of {K : PySem.W.Frag} (c : He.SaysD faL fnL K) (i j : Nat) (C qual : Str) (st : Stmt) (kw : List (Str × He.Dv)) (hi : fnL[i]? = some (dOfM C "__init__" qual st kw)) (hj : faL[j]? = some (.mkr C)) : DfnI K (He.ga K C) qual st (kw.map fun q => (q.1, q.2.v K)) := by
  obtain ⟨fd, F⟩ := c.def_ i hi
  exact ⟨⟨_, fd, F, He.mkr_ok (c.fact j hj)⟩⟩
theorem facts {P : Program} {w : World} {K : PySem.W.Frag} {h : Heap} {mg : Str → Option Value} (X : K.In h) (G : h.Ns mainGlobals mg) (c : He.SaysD faL fnL K) (ce : exL K = true) {fa : Addr} (hfa : mg ("law" : Str) = some (.ref fa)) :
    ∃ fd : FuncData, (∀ (s : Shared) (v : Value), BindsTo s fd ⟨[v], []⟩ [("_law_script", v)]) ∧ ∀ base : Heap, K.In base → base.Ns mainGlobals mg → FnOk P w K mg base CX0 6 fa fd ["_law_script"] (sp_law K) := by
  have B : Bi mg := ⟨He.free_ok X G (c.fact 34 rfl), He.free_ok X G (c.fact 35 rfl), He.free_ok X G (c.fact 36 rfl), He.free_ok X G (c.fact 37 rfl), He.free_ok X G (c.fact 38 rfl), He.free_ok X G (c.fact 39 rfl), He.free_ok X G (c.fact 40 rfl), He.free_ok X G (c.fact 41 rfl), He.free_ok X G (c.fact 42 rfl), He.free_ok X G (c.fact 43 rfl), He.free_ok X G (c.fact 44 rfl), He.free_ok X G (c.fact 45 rfl), He.free_ok X G (c.fact 46 rfl), He.free_ok X G (c.fact 47 rfl), He.free_ok X G (c.fact 48 rfl), He.free_ok X G (c.fact 49 rfl), He.free_ok X G (c.fact 50 rfl), He.free_ok X G (c.fact 51 rfl)⟩
  obtain ⟨ce1_, ce1⟩ := He.ba (show (_ && _) = true from ce)
  have ce0 := ce1_
  have CN : Cs K mg := ⟨He.int_ok X G (c.fact 52 rfl), He.int_ok X G (c.fact 53 rfl), He.int_ok X G (c.fact 54 rfl), He.int_ok X G (c.fact 55 rfl), He.int_ok X G (c.fact 56 rfl), He.int_ok X G (c.fact 57 rfl), He.int_ok X G (c.fact 58 rfl), He.int_ok X G (c.fact 59 rfl), tupAt_ints ce0, tupAt_ints ce1⟩
  have T_Report : Tx K mg (He.ga K "Report") "Report" nm_Report := ⟨He.cls_ok (c.fact 61 rfl), He.glo_ok X G (c.fact 60 rfl), fun f hf => by
    simp only [List.mem_cons, List.not_mem_nil, or_false] at hf
    rcases hf with rfl | rfl | rfl | rfl | rfl
    · exact He.noat_ok (c.fact 62 rfl)
    · exact He.noat_ok (c.fact 63 rfl)
    · exact He.noat_ok (c.fact 64 rfl)
    · exact He.noat_ok (c.fact 65 rfl)
    · exact He.noat_ok (c.fact 66 rfl)⟩
  have T_Chart : Tx K mg (He.ga K "Chart") "Chart" nm_Chart := ⟨He.cls_ok (c.fact 68 rfl), He.glo_ok X G (c.fact 67 rfl), fun f hf => by
    simp only [List.mem_cons, List.not_mem_nil, or_false] at hf
    rcases hf with rfl | rfl | rfl | rfl | rfl | rfl
    · exact He.noat_ok (c.fact 69 rfl)
    · exact He.noat_ok (c.fact 70 rfl)
    · exact He.noat_ok (c.fact 71 rfl)
    · exact He.noat_ok (c.fact 72 rfl)
    · exact He.noat_ok (c.fact 73 rfl)
    · exact He.noat_ok (c.fact 74 rfl)⟩
  have C_ascending : Cal P w K mg "ascending" ["zone"] 1 (sp_ascending K) := ok_ascending B CN (dfn_of X G c 0 0 6 "ascending" rfl rfl)
  have C_is_zone : Cal P w K mg "is_zone" ["zone", "size"] 1 (sp_is_zone K) := ok_is_zone B CN (dfn_of X G c 1 1 7 "is_zone" rfl rfl)
  have I_Report : CalI P w K mg (He.ga K "Report") "Report.__init__" s_Report_init (kw_Report K) ["self", "ship", "hour", "zone", "weight", "inside"] 2 (sp_Report_init K (He.ga K "Report")) := ok_Report_init B CN T_Report C_ascending C_is_zone (dfnI_of c 2 2 "Report" "Report.__init__" s_Report_init [("weight", .int 1), ("inside", .bl true)] rfl rfl)
  have M_Report_allows : CalM P w K mg (He.ga K "Report") "allows" ["self", "place"] 1 (sp_Report_allows K (He.ga K "Report")) := ok_Report_allows B CN T_Report (dfnM_of c 3 3 "Report" "allows" "Report.allows" s_Report_allows rfl rfl)
  have C_allowed_by_all : Cal P w K mg "allowed_by_all" ["chart", "reports"] 2 (sp_allowed_by_all K (He.ga K "Report") (He.ga K "Chart")) := ok_allowed_by_all B CN (dfn_of X G c 4 4 14 "allowed_by_all" rfl rfl) T_Report T_Chart M_Report_allows
  have C_corridor_of : Cal P w K mg "corridor_of" ["chart", "horizon", "reports", "ship"] 3 (sp_corridor_of K (He.ga K "Report") (He.ga K "Chart")) := ok_corridor_of B CN (dfn_of X G c 5 5 15 "corridor_of" rfl rfl) T_Report T_Chart C_allowed_by_all
  have C_good_numbers : Cal P w K mg "good_numbers" ["numbers", "most", "greatest"] 1 (sp_good_numbers K) := ok_good_numbers B CN (dfn_of X G c 6 6 21 "good_numbers" rfl rfl)
  have C_good_depths : Cal P w K mg "good_depths" ["depths"] 2 (sp_good_depths K) := ok_good_depths B CN (dfn_of X G c 7 7 22 "good_depths" rfl rfl) C_good_numbers
  have C_good_lanes : Cal P w K mg "good_lanes" ["lanes", "size"] 1 (sp_good_lanes K) := ok_good_lanes B CN (dfn_of X G c 8 8 23 "good_lanes" rfl rfl)
  have C_good_tide : Cal P w K mg "good_tide" ["tide"] 2 (sp_good_tide K) := ok_good_tide B CN (dfn_of X G c 9 9 24 "good_tide" rfl rfl) C_good_numbers
  have C_good_harbours : Cal P w K mg "good_harbours" ["harbours", "size"] 2 (sp_good_harbours K) := ok_good_harbours B CN (dfn_of X G c 10 10 25 "good_harbours" rfl rfl) C_is_zone
  have C_ordered_lanes : Cal P w K mg "ordered_lanes" ["lanes"] 1 (sp_ordered_lanes K) := ok_ordered_lanes B CN (dfn_of X G c 11 11 26 "ordered_lanes" rfl rfl)
  have C_joined_places : Cal P w K mg "joined_places" ["size", "lanes"] 1 (sp_joined_places K) := ok_joined_places B CN (dfn_of X G c 12 12 27 "joined_places" rfl rfl)
  have I_Chart : CalI P w K mg (He.ga K "Chart") "Chart.__init__" s_Chart_init (kw_Chart K) ["self", "depths", "lanes", "tide", "harbours"] 3 (sp_Chart_init K (He.ga K "Chart")) := ok_Chart_init B CN T_Chart C_good_depths C_good_lanes C_good_tide C_good_harbours C_ordered_lanes C_joined_places (dfnI_of c 13 13 "Chart" "Chart.__init__" s_Chart_init [("tide", .adr (kwdAt ("Chart", some "__init__") "tide")), ("harbours", .adr (kwdAt ("Chart", some "__init__") "harbours"))] rfl rfl)
  have M_Chart_neighbours : CalM P w K mg (He.ga K "Chart") "neighbours" ["self", "place"] 1 (sp_Chart_neighbours K (He.ga K "Chart")) := ok_Chart_neighbours B CN T_Chart (dfnM_of c 14 14 "Chart" "neighbours" "Chart.neighbours" s_Chart_neighbours rfl rfl)
  have C_l_hand : Cal P w K mg "_law_hand" ["_law_script", "_law_k"] 1 (sp_l_hand K) := ok_l_hand B CN (dfn_of X G c 15 15 30 "_law_hand" rfl rfl)
  have C_l_pick : Cal P w K mg "_law_pick" ["_law_hand_here", "_law_size"] 1 (sp_l_pick K) := ok_l_pick B CN (dfn_of X G c 16 16 31 "_law_pick" rfl rfl)
  have C_l_int : Cal P w K mg "_law_int" ["_law_x"] 1 (sp_l_int K) := ok_l_int B CN (dfn_of X G c 17 17 32 "_law_int" rfl rfl)
  have C_l_some : Cal P w K mg "_law_some" ["_law_hand_here", "_law_size", "_law_share"] 2 (sp_l_some K) := ok_l_some B CN (dfn_of X G c 18 18 33 "_law_some" rfl rfl) C_l_pick
  have C_l_sea : Cal P w K mg "_law_sea" ["_law_hand_here", "_law_most"] 3 (sp_l_sea K) := ok_l_sea B CN (dfn_of X G c 19 19 34 "_law_sea" rfl rfl) C_l_pick C_l_some
  have C_l_chart : Cal P w K mg "_law_chart" ["_law_sea_here"] 5 (sp_l_chart K (He.ga K "Chart")) := ok_l_chart B CN (dfn_of X G c 20 20 35 "_law_chart" rfl rfl) T_Chart I_Chart
  have C_l_corridor : Cal P w K mg "_law_corridor" ["_law_sea_here", "_law_notes", "_law_ship", "_law_count"] 1 (sp_l_corridor K) := ok_l_corridor B CN (dfn_of X G c 21 21 36 "_law_corridor" rfl rfl)
  have C_l_places : Cal P w K mg "_law_places" ["_law_code"] 1 (sp_l_places K) := ok_l_places B CN (dfn_of X G c 22 22 37 "_law_places" rfl rfl)
  have C_l_turned : Cal P w K mg "_law_turned" ["_law_code", "_law_zone"] 1 (sp_l_turned K) := ok_l_turned B CN (dfn_of X G c 23 23 38 "_law_turned" rfl rfl)
  have C_l_wild : Cal P w K mg "_law_wild" ["_law_hand_here", "_law_count", "_law_last", "_law_number"] 2 (sp_l_wild K) := ok_l_wild B CN (dfn_of X G c 24 24 39 "_law_wild" rfl rfl) C_l_pick C_l_places
  have C_l_flag : Cal P w K mg "_law_flag" ["_law_told", "_law_due"] 1 (sp_l_flag K) := ok_l_flag B CN (dfn_of X G c 25 25 40 "_law_flag" rfl rfl)
  have C_l_report : Cal P w K mg "_law_report" ["_law_code", "_law_note"] 4 (sp_l_report K (He.ga K "Report")) := ok_l_report B CN (dfn_of X G c 26 26 41 "_law_report" rfl rfl) T_Report I_Report C_l_turned
  have C_l_keeps : Cal P w K mg "_law_keeps" ["_law_report_here", "_law_note"] 2 (sp_l_keeps K (He.ga K "Report")) := ok_l_keeps B CN (dfn_of X G c 27 27 42 "_law_keeps" rfl rfl) T_Report M_Report_allows C_l_int C_l_flag
  have C_l_all_keep : Cal P w K mg "_law_all_keep" ["_law_handed", "_law_notes"] 3 (sp_l_all_keep K (He.ga K "Report")) := ok_l_all_keep B CN (dfn_of X G c 28 28 43 "_law_all_keep" rfl rfl) T_Report C_l_keeps
  have C_l_is_zone : Cal P w K mg "_law_is_zone" ["_law_told", "_law_due"] 2 (sp_l_is_zone K) := ok_l_is_zone B CN (dfn_of X G c 29 29 44 "_law_is_zone" rfl rfl) C_l_int
  have C_l_are_zones : Cal P w K mg "_law_are_zones" ["_law_told", "_law_due"] 3 (sp_l_are_zones K) := ok_l_are_zones B CN (dfn_of X G c 30 30 45 "_law_are_zones" rfl rfl) C_l_is_zone
  have C_l_all_fresh : Cal P w K mg "_law_all_fresh" ["_law_told", "_law_due"] 1 (sp_l_all_fresh K) := ok_l_all_fresh B CN (dfn_of X G c 31 31 46 "_law_all_fresh" rfl rfl)
  have C_l_corridors_hold : Cal P w K mg "_law_corridors_hold" ["_law_sea_here", "_law_chart_here", "_law_horizon", "_law_handed", "_law_notes"] 4 (sp_l_corridors_hold K (He.ga K "Report") (He.ga K "Chart")) := ok_l_corridors_hold B CN (dfn_of X G c 32 32 47 "_law_corridors_hold" rfl rfl) T_Report T_Chart C_corridor_of C_l_corridor C_l_are_zones C_l_all_fresh
  have C_law : Cal P w K mg "law" ["_law_script"] 6 (sp_law K) := ok_law B CN (dfn_of X G c 33 33 48 "law" rfl rfl) T_Chart T_Report C_l_hand C_l_pick C_l_sea C_l_chart C_l_wild C_l_report C_l_all_keep C_l_corridors_hold
  exact fn_law hfa C_law
end G

open PySem PySem.W PySem.Calls PyProof.Rows
theorem PySem.Challenge.cw_fogfleet_k16_corridor_of_reports_holds : PySem.Challenge.rw_fogfleet_k16_corridor_of_reports.Holds := by
  w_on; o_law
  refine HandSHeadRun.head_any (r := OpenLaw.row PySem.Challenge.rw_fogfleet_k16_corridor_of_reports) (q := view (OpenLaw.row PySem.Challenge.rw_fogfleet_k16_corridor_of_reports).prog [48]) (H := G.hk) (ob := G.ob) (M := 6000) (loose := G.looseL) (d := HandSHeadRun.topDef (OpenLaw.row PySem.Challenge.rw_fogfleet_k16_corridor_of_reports).prog 48) (kwd := []) G.ob_eq
    (by kernel_rfl) (fun s => by kernel_rfl) G.run (by kernel_rfl) (by kernel_rfl) (by kernel_rfl) (by rfl) (by first | assumption | decide +kernel) (by decide +kernel) ⟨rfl, rfl, rfl, rfl, rfl, by decide +kernel⟩ ?hw ?hc
  case hw => w_witness2
  case hc =>
    refine L2.walk_ofE (l := PySem.Challenge.rw_fogfleet_k16_corridor_of_reports) (n := 63) (k := 6) (x := "_law_script") (CX := L2.CX0) rfl (by decide) (by kernel_rfl) ⟨rfl, by decide, by decide⟩ ?F (fun _ _ _ _ z => z)
    intro w mg fa h Y G0 hmg0
    obtain ⟨K, KX, c, ce⟩ := Y
    have hmg : mg ("law" : PySem.Str) = some (.ref fa) := by
      have e : (HandSHeadRun.topDef (OpenLaw.row PySem.Challenge.rw_fogfleet_k16_corridor_of_reports).prog 48).name = ("law" : PySem.Str) := by kernel_rfl
      rw [← e]
      exact hmg0
    obtain ⟨fd, hb, hF⟩ := G.facts (P := (PySem.Challenge.rw_fogfleet_k16_corridor_of_reports).prog) (w := w) KX G0 c ce hmg
    exact ⟨K, fd, G.sp_law K, KX, hb, fun H a ns hl hO hS => ⟨_, ns, true, rfl, G.yScr_of hO hS, Mi.law_true ns hl, fun _ _ => rfl⟩, hF⟩
