import PyProof.Rows.All
import Wide.All
import OpenK.AllK
import Wide.FinOn
import HandS.ForMost
import HandS.ForExc
import HandS.Wide
import HandS.IsInst
import HandS.Flow
import HandS.Defaults
import HandS.SortInts
import HandS.Strs
import HandS.TupSets
import HandS.MakeKw
import HandS.MakeKwOnly
import HandS.Conv
import HandS.Steps
import KE.KStateDown
import Lean
import HandS.Head0
import HandS.Head1
import HandS.Head2
import HandS.HeadEnd
import HandS.HeadHook1
import HandS.HeadHook2
import PySem.Challenge.RW_fogfleet_k37_hours_of_a_leg
set_option Elab.async false
set_option linter.all false
set_option maxRecDepth 100000
set_option maxHeartbeats 4000000
/-! the plain meaning of the program's steps: none is what this text says nothing about -/
namespace Mi
def pyLet {α β : Type} (e : α) (f : α → β) : β := f e
def ixN (n : Nat) (i : Int) : Option Nat := if 0 ≤ i then (if i < n then some i.toNat else none) else if -(n : Int) ≤ i then some (i + n).toNat else none
def at_ {α : Type} (xs : List α) (i : Int) : Option α := (ixN xs.length i).bind fun j => xs[j]?
def setAt {α : Type} (xs : List α) (i : Int) (x : α) : Option (List α) := (ixN xs.length i).bind fun j => some (xs.set j x)
def sIx (n d : Nat) : Option Int → Nat
  | none => d
  | some v => if v < 0 then (v + (n : Int)).toNat else min v.toNat n
def cut {α : Type} (xs : List α) (lo hi : Option Int) : List α := (xs.drop (sIx xs.length 0 lo)).take (sIx xs.length xs.length hi - sIx xs.length 0 lo)
def big : Nat := 1000000
def app {α : Type} (xs : List α) (x : α) : Option (List α) := if xs.length < big then some (xs ++ [x]) else none
def cat {α : Type} (xs ys : List α) : Option (List α) := if xs.length + ys.length ≤ big then some (xs ++ ys) else none
def mul (i j : Int) : Option Int := if (-(2 ^ 64) < i ∧ i < 2 ^ 64) ∨ (-(2 ^ 64) < j ∧ j < 2 ^ 64) then some (i * j) else none
def mod (i j : Int) : Option Int := if 0 < j then some (i % j) else none
def fdiv (i j : Int) : Option Int := if 0 < j ∧ j < 2 ^ 200 then some (i / j) else none
def guardO (c : Bool) : Option Unit := if c = true then some () else none
def smallI (i : Int) : Bool := decide (-(2 ^ 60) ≤ i) && decide (i < 2 ^ 60)
/-- range(lo, hi) -/
def rng (lo hi : Int) : List Int := (List.range (hi - lo).toNat).map fun (k : Nat) => lo + (k : Int)
/-- range(lo, hi, -1) -/
def rngDown (lo hi : Int) : List Int := (List.range (lo - hi).toNat).map fun (k : Nat) => lo - (k : Int)
/-- a for that runs through -/
def forN {α σ : Type} (f : σ → α → Option σ) : σ → List α → Option σ
  | s, [] => some s
  | s, x :: xs => (f s x).bind fun s' => forN f s' xs
/-- a for that may return (inl) -/
def forR {α σ ρ : Type} (f : σ → α → Option (ρ ⊕ σ)) : σ → List α → Option (ρ ⊕ σ)
  | s, [] => some (.inr s)
  | s, x :: xs => (f s x).bind fun
    | .inl r => some (.inl r)
    | .inr s' => forR f s' xs
/-- a for that may break (inl) -/
def forB {α σ : Type} (f : σ → α → Option (σ ⊕ σ)) : σ → List α → Option σ
  | s, [] => some s
  | s, x :: xs => (f s x).bind fun
    | .inl s' => some s'
    | .inr s' => forB f s' xs
/-- a comprehension: none of the inner option is an item left out; the state is what the items' making changes -/
def comp {α β σ : Type} (f : σ → α → Option (Option β × σ)) : σ → List α → Option (List β × σ)
  | s, [] => some ([], s)
  | s, x :: xs => (f s x).bind fun p => (comp f p.2 xs).bind fun q => some ((match p.1 with | some y => y :: q.1 | none => q.1), q.2)
/-- a comprehension that changes nothing -/
def comp0 {α β : Type} (f : α → Option (Option β)) : List α → Option (List β)
  | [] => some []
  | x :: xs => (f x).bind fun p => (comp0 f xs).bind fun q => some (match p with | some y => y :: q | none => q)
def whileN {σ : Type} (c : σ → Option Bool) (b : σ → Option σ) : Nat → σ → Option σ
  | 0, _ => none
  | n + 1, s => (c s).bind fun t => if t = true then (b s).bind fun s' => whileN c b n s' else some s
def whileR {σ ρ : Type} (c : σ → Option Bool) (b : σ → Option (ρ ⊕ σ)) : Nat → σ → Option (ρ ⊕ σ)
  | 0, _ => none
  | n + 1, s => (c s).bind fun t => if t = true then (b s).bind fun
      | .inl r => some (.inl r)
      | .inr s' => whileR c b n s'
    else some (.inr s)
theorem bnd {α β : Type} {m : Option α} {f : α → Option β} {r : β} (h : m.bind f = some r) : ∃ x, m = some x ∧ f x = some r := by
  cases m with
  | none => cases h
  | some x => exact ⟨x, rfl, h⟩
theorem letE {α β : Type} {e : α} {f : α → Option β} {r : Option β} (h : pyLet e f = r) : ∃ x, e = x ∧ f x = r := ⟨e, rfl, h⟩
theorem ifT {α : Type} {b : Bool} {x y : Option α} {r : Option α} (hb : b = true) (h : (if b = true then x else y) = r) : x = r := by
  rw [if_pos hb] at h; exact h
theorem ifF {α : Type} {b : Bool} {x y : Option α} {r : Option α} (hb : b = false) (h : (if b = true then x else y) = r) : y = r := by
  rw [hb, if_neg Bool.false_ne_true] at h; exact h
end Mi
namespace Mi
def rngO (lo hi : Int) : Option (List Int) := if (-(2 ^ 60) ≤ lo ∧ lo < 2 ^ 60) ∧ (-(2 ^ 60) ≤ hi ∧ hi < 2 ^ 60) then some (rng lo hi) else none
def rngDownO (lo hi : Int) : Option (List Int) := if (-(2 ^ 60) ≤ lo ∧ lo < 2 ^ 60) ∧ (-(2 ^ 60) ≤ hi ∧ hi < 2 ^ 60) then some (rngDown lo hi) else none
theorem forN_go {α σ : Type} {f : σ → α → Option σ} {s e : σ} {xs : List α} {i : Nat} {x : α} (h : forN f s (xs.drop i) = some e) (hx : xs[i]? = some x) : ∃ s', f s x = some s' ∧ forN f s' (xs.drop (i + 1)) = some e := by
  have hi : i < xs.length := (List.getElem?_eq_some_iff.mp hx).1
  have e1 : xs.drop i = x :: xs.drop (i + 1) := by
    rw [List.drop_eq_getElem_cons hi]
    congr 1
    exact (List.getElem?_eq_some_iff.mp hx).2
  rw [e1] at h
  exact bnd h
theorem forN_end {α σ : Type} {f : σ → α → Option σ} {s e : σ} {xs : List α} (h : forN f s (xs.drop xs.length) = some e) : s = e := by
  rw [List.drop_length] at h
  exact Option.some.inj h
theorem forR_go {α σ ρ : Type} {f : σ → α → Option (ρ ⊕ σ)} {s : σ} {e : ρ ⊕ σ} {xs : List α} {i : Nat} {x : α} (h : forR f s (xs.drop i) = some e) (hx : xs[i]? = some x) :
    ∃ o, f s x = some o ∧ ((∃ r, o = .inl r ∧ e = .inl r) ∨ ∃ s', o = .inr s' ∧ forR f s' (xs.drop (i + 1)) = some e) := by
  have hi : i < xs.length := (List.getElem?_eq_some_iff.mp hx).1
  have e1 : xs.drop i = x :: xs.drop (i + 1) := by
    rw [List.drop_eq_getElem_cons hi]
    congr 1
    exact (List.getElem?_eq_some_iff.mp hx).2
  rw [e1] at h
  obtain ⟨o, h1, h2⟩ := bnd h
  refine ⟨o, h1, ?_⟩
  cases o with
  | inl r => exact .inl ⟨r, rfl, (Option.some.inj h2).symm⟩
  | inr s' => exact .inr ⟨s', rfl, h2⟩
theorem forR_end {α σ ρ : Type} {f : σ → α → Option (ρ ⊕ σ)} {s : σ} {e : ρ ⊕ σ} {xs : List α} (h : forR f s (xs.drop xs.length) = some e) : e = .inr s := by
  rw [List.drop_length] at h
  exact (Option.some.inj h).symm
theorem forB_go {α σ : Type} {f : σ → α → Option (σ ⊕ σ)} {s e : σ} {xs : List α} {i : Nat} {x : α} (h : forB f s (xs.drop i) = some e) (hx : xs[i]? = some x) :
    ∃ o, f s x = some o ∧ ((o = .inl e) ∨ ∃ s', o = .inr s' ∧ forB f s' (xs.drop (i + 1)) = some e) := by
  have hi : i < xs.length := (List.getElem?_eq_some_iff.mp hx).1
  have e1 : xs.drop i = x :: xs.drop (i + 1) := by
    rw [List.drop_eq_getElem_cons hi]
    congr 1
    exact (List.getElem?_eq_some_iff.mp hx).2
  rw [e1] at h
  obtain ⟨o, h1, h2⟩ := bnd h
  refine ⟨o, h1, ?_⟩
  cases o with
  | inl r => exact .inl (by rw [Option.some.inj h2])
  | inr s' => exact .inr ⟨s', rfl, h2⟩
theorem forB_end {α σ : Type} {f : σ → α → Option (σ ⊕ σ)} {s e : σ} {xs : List α} (h : forB f s (xs.drop xs.length) = some e) : s = e := by
  rw [List.drop_length] at h
  exact Option.some.inj h
end Mi
namespace Mi
def orR {ρ σ : Type} (o : ρ ⊕ σ) (k : σ → Option ρ) : Option ρ := match o with
  | .inl r => some r
  | .inr s => k s
def orL {ρ σ τ : Type} (o : ρ ⊕ σ) (k : σ → Option (ρ ⊕ τ)) : Option (ρ ⊕ τ) := match o with
  | .inl r => some (.inl r)
  | .inr s => k s
theorem orR_inl {ρ σ : Type} {r q : ρ} {k : σ → Option ρ} (h : orR (.inl r) k = some q) : some r = some q := h
theorem orR_inr {ρ σ : Type} {s : σ} {q : ρ} {k : σ → Option ρ} (h : orR (.inr s) k = some q) : k s = some q := h
theorem orL_inl {ρ σ τ : Type} {r : ρ} {q : ρ ⊕ τ} {k : σ → Option (ρ ⊕ τ)} (h : orL (.inl r) k = some q) : some (.inl r) = some q := h
theorem orL_inr {ρ σ τ : Type} {s : σ} {q : ρ ⊕ τ} {k : σ → Option (ρ ⊕ τ)} (h : orL (.inr s) k = some q) : k s = some q := h
theorem or_inl {ρ σ : Type} {r : ρ} {e : ρ ⊕ σ} {P : σ → Prop} (h : (∃ r', (Sum.inl r : ρ ⊕ σ) = .inl r' ∧ e = .inl r') ∨ ∃ s', (Sum.inl r : ρ ⊕ σ) = .inr s' ∧ P s') : e = .inl r := by
  rcases h with ⟨r', h1, h2⟩ | ⟨s', h1, _⟩
  · cases h1; exact h2
  · cases h1
theorem or_inr {ρ σ : Type} {s : σ} {e : ρ ⊕ σ} {P : σ → Prop} (h : (∃ r', (Sum.inr s : ρ ⊕ σ) = .inl r' ∧ e = .inl r') ∨ ∃ s', (Sum.inr s : ρ ⊕ σ) = .inr s' ∧ P s') : P s := by
  rcases h with ⟨r', h1, h2⟩ | ⟨s', h1, h2⟩
  · cases h1
  · cases h1; exact h2
end Mi

namespace Mi
def m_round_up (d0 : Int) (d1 : Int) : Option Int :=
  (fdiv ((d0 + d1) - (1 : Int)) d1).bind fun x1 =>
  some x1
def m_leg_hours (d0 : Int) (d1 : Int) (d2 : Int) : Option (Int × Int) :=
  (m_round_up d0 d2).bind fun q1 =>
  (m_round_up d0 d1).bind fun q4 =>
  some (q1, q4)
def m_leg_speeds_b1 (d0 : Int) (d1 : Int) (d2 : Int) (s20 : ((List Int) × Int)) (x24 : Int) : Option ((List Int) × Int) :=
  (mul x24 d2).bind fun x26 =>
  pyLet ((max d1 ((d0 - s20.2) - x26)) : Int) fun speed27 =>
  (app s20.1 speed27).bind fun x28 =>
  pyLet (s20.2 + speed27 : Int) fun made31 =>
  some (x28, made31)
def m_leg_speeds (d0 : Int) (d1 : Int) (d2 : Int) (d3 : Int) : Option (Option (List Int)) :=
  (m_leg_hours d0 d1 d2).bind fun q1 =>
  if ((decide (d3 < q1.1)) || (decide (q1.2 < d3))) = true then
  (some (none : (Option (List Int))))
  else
  pyLet ((0 : Int) : Int) fun made17 =>
  (rngDownO (d3 - (1 : Int)) (-(1 : Int))).bind fun g18 =>
  (forN (m_leg_speeds_b1 d0 d1 d2) (([] : (List Int)), made17) g18).bind fun s20 =>
  some (some s20.1)
def m_l_hand (d0 : (List Int)) (d1 : Int) : Option (List Int) :=
  pyLet ((0 : Int) : Int) fun cell1 =>
  (if (decide (d1 < (d0.length : Int))) = true then ((at_ d0 d1).bind fun x3 =>
  pyLet (x3 : Int) fun cell4 =>
  some cell4) else (some cell1) : Option Int).bind fun s2 =>
  (if (decide (s2 < (0 : Int))) = true then (pyLet (((1 : Int) - ((2 : Int) * s2)) : Int) fun cell6 =>
  some cell6) else (some s2) : Option Int).bind fun s5 =>
  pyLet ((0 : Int) : Int) fun rest7 =>
  (if (decide (((10 : Int) ^ 18) ≤ s5)) = true then (pyLet (s5 : Int) fun rest9 =>
  some rest9) else (some rest7) : Option Int).bind fun s8 =>
  some [s8, (((s5 + ((7919 : Int) * d1)) + (13 : Int)) % (2147483647 : Int)), (0 : Int)]
def m_l_pick (d0 : (List Int)) (d1 : Int) : Option (Int × (List Int)) :=
  if (decide (d1 < (1 : Int))) = true then
  (some ((0 : Int), d0))
  else
  (at_ d0 (0 : Int)).bind fun x1 =>
  if (decide ((0 : Int) < x1)) = true then
  ((at_ d0 (0 : Int)).bind fun x2 =>
  (mod x2 d1).bind fun x3 =>
  pyLet (x3 : Int) fun digit4 =>
  (at_ d0 (0 : Int)).bind fun x5 =>
  (fdiv x5 d1).bind fun x6 =>
  (setAt d0 (0 : Int) x6).bind fun x7 =>
  some (digit4, x7))
  else
  (at_ d0 (2 : Int)).bind fun x10 =>
  (setAt d0 (2 : Int) (x10 + (1 : Int))).bind fun x11 =>
  (at_ x11 (1 : Int)).bind fun x14 =>
  (at_ x11 (2 : Int)).bind fun x15 =>
  pyLet ((((x14 + ((7919 : Int) * x15)) + (13 : Int)) % (2147483647 : Int)) : Int) fun mixed16 =>
  (mul mixed16 (mixed16 + (48271 : Int))).bind fun x17 =>
  pyLet ((x17 % (2147483629 : Int)) : Int) fun mixed18 =>
  (mul mixed18 (mixed18 + (69621 : Int))).bind fun x19 =>
  (at_ x11 (2 : Int)).bind fun x20 =>
  pyLet (((x19 + ((31 : Int) * x20)) % (2147483647 : Int)) : Int) fun mixed21 =>
  (mod (mixed21 / (9 : Int)) d1).bind fun x22 =>
  some (x22, x11)
def m_l_int (d0 : Int) : Option Bool :=
  some (true && (!false))
def m_l_least_hours_b1 (d0 : Int) (d1 : Int) (s4 : Int) (x7 : Int) : Option Int :=
  ((mul s4 d1).bind fun x10 =>
  if (decide (x10 < d0)) = true then (pyLet ((s4 + (1 : Int)) : Int) fun hours11 =>
  some hours11) else (some s4) : Option Int).bind fun s9 =>
  some s9
def m_l_least_hours (d0 : Int) (d1 : Int) : Option Int :=
  pyLet ((0 : Int) : Int) fun hours1 =>
  (rngO 0 (40 : Int)).bind fun g2 =>
  (forN (m_l_least_hours_b1 d0 d1) hours1 g2).bind fun s4 =>
  some s4
def m_l_leg (d0 : (List Int)) : Option ((Int × Int × Int × Int) × (List Int)) :=
  (m_l_pick d0 (41 : Int)).bind fun q1 =>
  (m_l_pick q1.2 (3 : Int)).bind fun q4 =>
  pyLet (((1 : Int) + q4.1) : Int) fun top7 =>
  (m_l_pick q4.2 top7).bind fun q8 =>
  pyLet (((1 : Int) + q8.1) : Int) fun low11 =>
  (m_l_least_hours q1.1 top7).bind fun q12 =>
  (m_l_least_hours q1.1 low11).bind fun q15 =>
  (m_l_pick q8.2 (4 : Int)).bind fun q18 =>
  (m_l_pick q18.2 ((q15 - q12) + (1 : Int))).bind fun q21 =>
  pyLet ((q12 + q21.1) : Int) fun hours24 =>
  (if (decide (q18.1 = (0 : Int))) = true then ((m_l_pick q21.2 (2 : Int)).bind fun q33 =>
  (at_ [(max (0 : Int) (q12 - (1 : Int))), (q15 + (1 : Int))] q33.1).bind fun x36 =>
  some (q33.2, x36)) else (some (q21.2, hours24)) : Option ((List Int) × Int)).bind fun s25 =>
  (if (decide (q18.1 = (1 : Int))) = true then ((m_l_pick s25.1 (46 : Int)).bind fun q40 =>
  some (q40.2, q40.1)) else (some (s25.1, s25.2)) : Option ((List Int) × Int)).bind fun s39 =>
  some ((q1.1, low11, top7, s39.2), s39.1)
def m_l_speeds_hold_b1 (d0 : (List Int)) (d1 : (Int × Int × Int × Int)) (s17 : Int) (x21 : Int) : Option (Bool ⊕ Int) :=
  (at_ d0 x21).bind fun x24 =>
  pyLet (x24 : Int) fun speed25 =>
  ((m_l_int speed25).bind fun q27 => if (!q27) = true then some true else  if (decide (speed25 < d1.2.1)) = true then some true else  if (decide (d1.2.2.1 < speed25)) = true then some true else  some (decide (d1.1 ≤ s17))).bind fun b26 =>
  if b26 = true then
  (some (.inl false))
  else
  pyLet ((s17 + speed25) : Int) fun made48 =>
  (if (decide (d1.2.1 < speed25)) = true then (mul ((d1.2.2.2 - (1 : Int)) - x21) d1.2.2.1).bind fun x68 => some (decide (d1.1 ≤ ((made48 - (1 : Int)) + x68))) else some false).bind fun b75 =>
  if b75 = true then
  (some (.inl false))
  else
  some (.inr made48)
def m_l_speeds_hold (d0 : (List Int)) (d1 : (Int × Int × Int × Int)) : Option Bool :=
  if ((!true) || (!(decide ((d0.length : Int) = d1.2.2.2)))) = true then
  (some false)
  else
  pyLet ((0 : Int) : Int) fun made8 =>
  (rngO 0 d1.2.2.2).bind fun g15 =>
  (forR (m_l_speeds_hold_b1 d0 d1) made8 g15).bind fun e16 => orR e16 fun s17 =>
  some (decide (d1.1 ≤ s17))
def m_l_leg_holds (d0 : (Int × Int × Int × Int)) : Option Bool :=
  (m_l_least_hours d0.1 d0.2.2.1).bind fun q13 =>
  (m_l_least_hours d0.1 d0.2.1).bind fun q28 =>
  (m_leg_hours d0.1 d0.2.1 d0.2.2.1).bind fun q49 =>
  ( if (!true) = true then some true else  if (!(decide ((2 : Int) = (2 : Int)))) = true then some true else (m_l_int q49.1).bind fun q61 => if (!q61) = true then some true else (m_l_int q49.2).bind fun q70 => some (!q70)).bind fun b54 =>
  if b54 = true then
  (some false)
  else
  if ((!(decide (q49.1 = q13))) || (!(decide (q49.2 = q28)))) = true then
  (some false)
  else
  (m_leg_speeds d0.1 d0.2.1 d0.2.2.1 d0.2.2.2).bind fun q110 =>
  if ((decide (d0.2.2.2 < q13)) || (decide (q28 < d0.2.2.2))) = true then
  (some q110.isNone)
  else
  (q110).bind fun x131 =>
  (m_l_speeds_hold x131 d0).bind fun q133 =>
  if (!q133) = true then
  (some false)
  else
  (app x131 (99 : Int)).bind fun x136 =>
  some true
def m_law_b1 (q9 : ((Int × Int × Int × Int) × (List Int))) (q22 : ((Int × Int × Int × Int) × (List Int))) (s41 : Unit) (x44 : Int) : Option (Bool ⊕ Unit) :=
  (at_ [q9.1, q22.1] x44).bind fun x49 =>
  (m_l_leg_holds x49).bind fun q53 =>
  if (!q53) = true then
  (some (.inl false))
  else
  some (.inr ())
def m_law (d0 : (List Int)) : Option Bool :=
  (m_l_hand d0 (0 : Int)).bind fun q1 =>
  (m_l_leg q1).bind fun q9 =>
  (m_l_hand d0 (1 : Int)).bind fun q14 =>
  (m_l_leg q14).bind fun q22 =>
  (forR (m_law_b1 q9 q22) () [(0 : Int), (1 : Int), (0 : Int)]).bind fun e40 => orR e40 fun s41 =>
  some true
end Mi

namespace Mi
/-! ### draws -/
def Hd (h : List Int) : Prop := ∃ a b c : Int, h = [a, b, c] ∧ 0 ≤ a
theorem mod_ok {i j : Int} (h : 0 < j) : mod i j = some (i % j) := if_pos h
theorem fdiv_ok {i j : Int} (h : 0 < j) (h2 : j < 2 ^ 200) : fdiv i j = some (i / j) := if_pos ⟨h, h2⟩
theorem mul_okL {i j : Int} (h : -(2 ^ 64) < i) (h2 : i < 2 ^ 64) : mul i j = some (i * j) := if_pos (.inl ⟨h, h2⟩)
theorem mul_okR {i j : Int} (h : -(2 ^ 64) < j) (h2 : j < 2 ^ 64) : mul i j = some (i * j) := if_pos (.inr ⟨h, h2⟩)
theorem app_ok {α : Type} {xs : List α} {x : α} (h : xs.length < big) : app xs x = some (xs ++ [x]) := if_pos h
theorem cat_ok {α : Type} {xs ys : List α} (h : xs.length + ys.length ≤ big) : cat xs ys = some (xs ++ ys) := if_pos h
theorem rngO_ok {lo hi : Int} (h1 : -(2 ^ 60) ≤ lo) (h2 : lo < 2 ^ 60) (h3 : -(2 ^ 60) ≤ hi) (h4 : hi < 2 ^ 60) : rngO lo hi = some (rng lo hi) := if_pos ⟨⟨h1, h2⟩, h3, h4⟩
theorem rngDownO_ok {lo hi : Int} (h1 : -(2 ^ 60) ≤ lo) (h2 : lo < 2 ^ 60) (h3 : -(2 ^ 60) ≤ hi) (h4 : hi < 2 ^ 60) : rngDownO lo hi = some (rngDown lo hi) := if_pos ⟨⟨h1, h2⟩, h3, h4⟩
theorem at0 {α : Type} (a : α) (l : List α) : at_ (a :: l) 0 = some a := by
  unfold at_ ixN
  rw [if_pos (by decide), if_pos (by rw [List.length_cons]; omega)]
  rfl
theorem at_nat {α : Type} {xs : List α} {j : Nat} {x : α} (h : xs[j]? = some x) : at_ xs (j : Int) = some x := by
  have hj : j < xs.length := (List.getElem?_eq_some_iff.mp h).1
  unfold at_ ixN
  rw [if_pos (by omega), if_pos (by omega), Int.toNat_natCast]
  exact h
theorem at_int {α : Type} {xs : List α} {i : Int} {x : α} (h0 : 0 ≤ i) (h : xs[i.toNat]? = some x) : at_ xs i = some x := by
  have e : i = (i.toNat : Int) := by omega
  rw [e]; exact at_nat h
theorem at_some {α : Type} {xs : List α} {i : Int} (h0 : 0 ≤ i) (h1 : i < xs.length) : ∃ x, at_ xs i = some x ∧ xs[i.toNat]? = some x := by
  have hj : i.toNat < xs.length := by omega
  exact ⟨xs[i.toNat], at_int h0 (List.getElem?_eq_getElem hj), List.getElem?_eq_getElem hj⟩
theorem hand_ok (s : List Int) (k : Int) (hk : 0 ≤ k) : ∃ h, m_l_hand s k = some h ∧ Hd h := by
  simp only [m_l_hand, pyLet]
  have hc : ∃ c, (if decide (k < (s.length : Int)) = true then (at_ s k).bind fun x3 => some x3 else some 0 : Option Int) = some c := by
    by_cases h : k < (s.length : Int)
    · rw [if_pos (decide_eq_true h)]
      obtain ⟨x, hx, _⟩ := at_some hk h
      rw [hx]
      exact ⟨x, rfl⟩
    · rw [if_neg (by simpa using h)]
      exact ⟨0, rfl⟩
  obtain ⟨c, hc⟩ := hc
  rw [hc]
  show ∃ h, (Option.bind (if decide (c < 0) = true then some (1 - 2 * c) else some c) _) = some h ∧ Hd h
  have hd : ∃ d, (if decide (c < 0) = true then some (1 - 2 * c) else some c) = some d ∧ 0 ≤ d := by
    by_cases h : c < 0
    · rw [if_pos (decide_eq_true h)]
      exact ⟨_, rfl, by omega⟩
    · rw [if_neg (by simpa using h)]
      exact ⟨c, rfl, by omega⟩
  obtain ⟨d, hd, h0⟩ := hd
  rw [hd]
  show ∃ h, (Option.bind (if decide (((10 : Int) ^ 18) ≤ d) = true then some d else some 0) _) = some h ∧ Hd h
  by_cases h : ((10 : Int) ^ 18) ≤ d
  · rw [if_pos (decide_eq_true h)]
    exact ⟨_, rfl, _, _, _, rfl, h0⟩
  · rw [if_neg (by simpa using h)]
    exact ⟨_, rfl, _, _, _, rfl, by omega⟩
theorem pick_ok {h : List Int} (hh : Hd h) {n : Int} (hn : 1 ≤ n) (hN : n < 2 ^ 200) : ∃ r h', m_l_pick h n = some (r, h') ∧ 0 ≤ r ∧ r < n ∧ Hd h' := by
  obtain ⟨a, b, c, rfl, ha⟩ := hh
  have i0 : ∀ x y z : Int, at_ [x, y, z] 0 = some x := fun _ _ _ => rfl
  have i1 : ∀ x y z : Int, at_ [x, y, z] 1 = some y := fun _ _ _ => rfl
  have i2 : ∀ x y z : Int, at_ [x, y, z] 2 = some z := fun _ _ _ => rfl
  have s0 : ∀ x y z u : Int, setAt [x, y, z] 0 u = some [u, y, z] := fun _ _ _ _ => rfl
  have s2 : ∀ x y z u : Int, setAt [x, y, z] 2 u = some [x, y, u] := fun _ _ _ _ => rfl
  unfold m_l_pick pyLet
  rw [if_neg (by simp; omega)]
  simp only [i0, i1, i2, s0, s2, Option.bind_some]
  by_cases h : 0 < a
  · rw [if_pos (decide_eq_true h), mod_ok (by omega)]
    simp only [Option.bind_some]
    rw [fdiv_ok (by omega) hN]
    simp only [Option.bind_some, s0]
    exact ⟨_, _, rfl, Int.emod_nonneg _ (by omega), Int.emod_lt_of_pos _ (by omega), _, _, _, rfl, Int.ediv_nonneg ha (by omega)⟩
  · rw [if_neg (by simpa using h)]
    have m1 := Int.emod_nonneg (b + 7919 * (c + 1) + 13) (show (2147483647 : Int) ≠ 0 by decide)
    have m2 := Int.emod_lt_of_pos (b + 7919 * (c + 1) + 13) (show (0 : Int) < 2147483647 by decide)
    rw [mul_okL (by omega) (by omega)]
    simp only [Option.bind_some]
    have m3 := Int.emod_nonneg ((b + 7919 * (c + 1) + 13) % 2147483647 * ((b + 7919 * (c + 1) + 13) % 2147483647 + 48271)) (show (2147483629 : Int) ≠ 0 by decide)
    have m4 := Int.emod_lt_of_pos ((b + 7919 * (c + 1) + 13) % 2147483647 * ((b + 7919 * (c + 1) + 13) % 2147483647 + 48271)) (show (0 : Int) < 2147483629 by decide)
    rw [mul_okL (by omega) (by omega)]
    simp only [Option.bind_some]
    rw [mod_ok (by omega)]
    exact ⟨_, _, rfl, Int.emod_nonneg _ (by omega), Int.emod_lt_of_pos _ (by omega), _, _, _, rfl, ha⟩

/-! ### ranges and loops -/
theorem rng_nil {lo hi : Int} (h : hi ≤ lo) : rng lo hi = [] := by
  unfold rng
  have e : (hi - lo).toNat = 0 := by omega
  rw [e]; rfl
theorem rng_cons {lo hi : Int} (h : lo < hi) : rng lo hi = lo :: rng (lo + 1) hi := by
  unfold rng
  have e : (hi - lo).toNat = (hi - (lo + 1)).toNat + 1 := by omega
  rw [e, List.range_succ_eq_map, List.map_cons, List.map_map]
  congr 1
  · omega
  · apply List.map_congr_left
    intro k _
    show lo + ((k + 1 : Nat) : Int) = lo + 1 + (k : Int)
    omega
theorem rngDown_nil {lo hi : Int} (h : lo ≤ hi) : rngDown lo hi = [] := by
  unfold rngDown
  have e : (lo - hi).toNat = 0 := by omega
  rw [e]; rfl
theorem rngDown_cons {lo hi : Int} (h : hi < lo) : rngDown lo hi = lo :: rngDown (lo - 1) hi := by
  unfold rngDown
  have e : (lo - hi).toNat = (lo - 1 - hi).toNat + 1 := by omega
  rw [e, List.range_succ_eq_map, List.map_cons, List.map_map]
  congr 1
  · omega
  · apply List.map_congr_left
    intro k _
    show lo - ((k + 1 : Nat) : Int) = lo - 1 - (k : Int)
    omega
theorem rng_length (lo hi : Int) : (rng lo hi).length = (hi - lo).toNat := by unfold rng; rw [List.length_map, List.length_range]
theorem mem_rng {lo hi x : Int} : x ∈ rng lo hi ↔ lo ≤ x ∧ x < hi := by
  unfold rng
  rw [List.mem_map]
  constructor
  · rintro ⟨k, hk, rfl⟩
    rw [List.mem_range] at hk
    omega
  · intro h
    exact ⟨(x - lo).toNat, List.mem_range.mpr (by omega), by omega⟩
theorem at_app {α : Type} (pre : List α) (x : α) (post : List α) : at_ (pre ++ x :: post) (pre.length : Int) = some x := at_nat (by
  rw [List.getElem?_append_right (Nat.le_refl _), Nat.sub_self]; rfl)
/-- a loop that keeps P runs through -/
theorem forN_inv {α σ : Type} {f : σ → α → Option σ} (P : σ → Prop) : ∀ {xs : List α} {s : σ}, P s → (∀ s x, x ∈ xs → P s → ∃ s', f s x = some s' ∧ P s') → ∃ e, forN f s xs = some e ∧ P e
  | [], s, h0, _ => ⟨s, rfl, h0⟩
  | x :: xs, s, h0, h => by
    obtain ⟨s', e, h1⟩ := h s x (List.mem_cons_self ..) h0
    obtain ⟨e2, h2, h3⟩ := forN_inv P (xs := xs) h1 fun s y hy => h s y (List.mem_cons_of_mem _ hy)
    exact ⟨e2, by show (f s x).bind _ = _; rw [e]; exact h2, h3⟩
theorem forN_nil {α σ : Type} (f : σ → α → Option σ) (s : σ) : forN f s [] = some s := rfl
theorem forN_cons {α σ : Type} (f : σ → α → Option σ) (s : σ) (x : α) (xs : List α) : forN f s (x :: xs) = (f s x).bind fun s' => forN f s' xs := rfl
theorem forR_nil {α σ ρ : Type} (f : σ → α → Option (ρ ⊕ σ)) (s : σ) : forR f s [] = some (.inr s) := rfl
theorem forR_step {α σ ρ : Type} {f : σ → α → Option (ρ ⊕ σ)} {s s' : σ} {x : α} {xs : List α} (h : f s x = some (.inr s')) : forR f s (x :: xs) = forR f s' xs := by
  show (f s x).bind _ = _
  rw [h]; rfl
/-- a search that finds nothing to return -/
theorem forR_all {α ρ : Type} {f : Unit → α → Option (ρ ⊕ Unit)} : ∀ {xs : List α}, (∀ x ∈ xs, f () x = some (.inr ())) → forR f () xs = some (.inr ())
  | [], _ => rfl
  | x :: xs, h => by
    rw [forR_step (h x (List.mem_cons_self ..))]
    exact forR_all fun y hy => h y (List.mem_cons_of_mem _ hy)

theorem least_fin : ∀ L : Fin 41, ∀ v : Fin 3, m_l_least_hours ((L.val : Nat) : Int) ((v.val : Nat) + 1 : Int) = some (((L.val : Nat) + ((v.val : Nat) + 1 : Int) - 1) / ((v.val : Nat) + 1 : Int)) := by decide +kernel
theorem least_ok {L v : Int} (h0 : 0 ≤ L) (h1 : L ≤ 40) (h2 : 1 ≤ v) (h3 : v ≤ 3) : m_l_least_hours L v = some ((L + v - 1) / v) := by
  have h := least_fin ⟨L.toNat, by omega⟩ ⟨(v - 1).toNat, by omega⟩
  have e1 : ((L.toNat : Nat) : Int) = L := by omega
  have e2 : (((v - 1).toNat : Nat) : Int) + 1 = v := by omega
  simp only [e1, e2] at h
  exact h
def sp (L s f : Int) : Int → Nat → List Int
  | _, 0 => []
  | made, n + 1 => max s (L - made - (n : Int) * f) :: sp L s f (made + max s (L - made - (n : Int) * f)) n
theorem sp_len (L s f : Int) : ∀ (n : Nat) (made : Int), (sp L s f made n).length = n
  | 0, _ => rfl
  | n + 1, made => by
    show (sp L s f _ n).length + 1 = n + 1
    rw [sp_len L s f n]
theorem speeds_loop {L s f : Int} (hf : 1 ≤ f) (hf3 : f ≤ 3) : ∀ (n : Nat) (acc : List Int) (made : Int), acc.length + n ≤ 100 → ∃ m', forN (m_leg_speeds_b1 L s f) (acc, made) (rngDown ((n : Int) - 1) (-1)) = some (acc ++ sp L s f made n, m')
  | 0, acc, made, _ => by
    rw [rngDown_nil (by omega)]
    exact ⟨made, by rw [show sp L s f made 0 = [] from rfl, List.append_nil]; rfl⟩
  | n + 1, acc, made, h => by
    rw [rngDown_cons (by omega), forN_cons]
    have e : ((n + 1 : Nat) : Int) - 1 = (n : Int) := by omega
    rw [e]
    simp only [m_leg_speeds_b1, pyLet]
    rw [mul_okR (by omega) (by omega)]
    simp only [Option.bind_some]
    rw [app_ok (show acc.length < big by show acc.length < 1000000; omega)]
    simp only [Option.bind_some]
    obtain ⟨m', h'⟩ := speeds_loop (L := L) (s := s) hf hf3 n (acc ++ [max s (L - made - (n : Int) * f)]) (made + max s (L - made - (n : Int) * f)) (by rw [List.length_append]; show acc.length + 1 + n ≤ 100; omega)
    refine ⟨m', ?_⟩
    rw [h', List.append_assoc]
    rfl
theorem check_loop {L s f h : Int} (hs : 1 ≤ s) (hsf : s ≤ f) (hf3 : f ≤ 3) (told : List Int) (hh : (h - 1) * s < L ∨ h = 0) : ∀ (n : Nat) (pre : List Int) (made : Int), told = pre ++ sp L s f made n → (pre.length : Int) + n = h → h ≤ 100 →
    L - made ≤ (n : Int) * f → (made ≤ (pre.length : Int) * s ∨ made ≤ L - (n : Int) * f) → ∃ m', forR (m_l_speeds_hold_b1 told (L, s, f, h)) made (rng (pre.length : Int) h) = some (.inr m') ∧ L ≤ m'
  | 0, pre, made, _, e2, _, i1, _ => by
    rw [rng_nil (by omega)]
    exact ⟨made, rfl, by omega⟩
  | n + 1, pre, made, e1, e2, hb, i1, i2 => by
    rw [rng_cons (by omega)]
    have hx : at_ told (pre.length : Int) = some (max s (L - made - (n : Int) * f)) := by
      rw [e1]; exact at_app pre _ _
    have hmade : made < L := by
      have hs3 : s = 1 ∨ s = 2 ∨ s = 3 := by omega
      have hf4 : f = 1 ∨ f = 2 ∨ f = 3 := by omega
      rcases hh with hh | hh
      · rcases hs3 with rfl | rfl | rfl <;> rcases hf4 with rfl | rfl | rfl <;> omega
      · omega
    have hstep : m_l_speeds_hold_b1 told (L, s, f, h) made (pre.length : Int) = some (.inr (made + max s (L - made - (n : Int) * f))) := by
      simp only [m_l_speeds_hold_b1, pyLet, hx, Option.bind_some, m_l_int]
      have c1 : ¬ max s (L - made - (n : Int) * f) < s := by omega
      have c2 : ¬ f < max s (L - made - (n : Int) * f) := by
        have hf4 : f = 1 ∨ f = 2 ∨ f = 3 := by omega
        rcases hf4 with rfl | rfl | rfl <;> omega
      have c3 : ¬ L ≤ made := by omega
      simp only [c1, c2, c3, decide_false, Bool.not_false, Bool.and_self, Bool.not_true, Bool.false_eq_true, if_false, Option.bind_some]
      have hn : h - 1 - (pre.length : Int) = (n : Int) := by omega
      rw [hn]
      by_cases c4 : s < max s (L - made - (n : Int) * f)
      · have c5 : ¬ L ≤ made + max s (L - made - (n : Int) * f) - 1 + (n : Int) * f := by omega
        simp only [c4, decide_true, if_true]
        rw [mul_okR (by omega) (by omega)]
        simp only [Option.bind_some, c5, decide_false, Bool.false_eq_true, if_false]
      · simp only [c4, decide_false, Bool.false_eq_true, if_false, Option.bind_some]
    rw [forR_step hstep]
    have ep : ((pre ++ [max s (L - made - (n : Int) * f)]).length : Int) = (pre.length : Int) + 1 := by rw [List.length_append]; rfl
    have r := check_loop hs hsf hf3 told hh n (pre ++ [max s (L - made - (n : Int) * f)]) (made + max s (L - made - (n : Int) * f)) (by rw [e1, List.append_assoc]; rfl) (by rw [ep]; omega) hb (by
        have hf4 : f = 1 ∨ f = 2 ∨ f = 3 := by omega
        rcases hf4 with rfl | rfl | rfl <;> omega) (by
        rw [ep]
        have hs3 : s = 1 ∨ s = 2 ∨ s = 3 := by omega
        have hf4 : f = 1 ∨ f = 2 ∨ f = 3 := by omega
        rcases hs3 with rfl | rfl | rfl <;> rcases hf4 with rfl | rfl | rfl <;> omega)
    rw [ep] at r
    exact r
structure Leg (q : Int × Int × Int × Int) : Prop where
  l0 : 0 ≤ q.1
  l1 : q.1 ≤ 40
  s0 : 1 ≤ q.2.1
  s1 : q.2.1 ≤ q.2.2.1
  f1 : q.2.2.1 ≤ 3
  h0 : 0 ≤ q.2.2.2
  h1 : q.2.2.2 ≤ 45
theorem holds_ok {q : Int × Int × Int × Int} (g : Leg q) : m_l_leg_holds q = some true := by
  obtain ⟨L, s, f, n⟩ := q
  obtain ⟨l0, l1, s0, s1, f1, h0, h1⟩ := g
  simp only at l0 l1 s0 s1 f1 h0 h1
  simp only [m_l_leg_holds]
  have ru : ∀ v : Int, 1 ≤ v → v ≤ 3 → m_round_up L v = some ((L + v - 1) / v) := fun v h1 h2 => by
    unfold m_round_up
    rw [fdiv_ok (by omega) (by omega)]
    rfl
  have lh : m_leg_hours L s f = some ((L + f - 1) / f, (L + s - 1) / s) := by
    simp only [m_leg_hours, ru f (by omega) (by omega), ru s (by omega) (by omega), Option.bind_some]
  rw [least_ok l0 l1 (by omega) (by omega), least_ok l0 l1 (by omega) (by omega), lh]
  simp only [Option.bind_some, m_l_int, Bool.not_true, Bool.false_eq_true, if_false, decide_true, Bool.not_false, Bool.and_self, Bool.or_self]
  have ea : (L + f - 1) / f * f ≥ L ∧ (((L + s - 1) / s - 1) * s < L ∨ (L + s - 1) / s = 0) ∧ ((L + f - 1) / f - 1) * f < L ∧ 0 ≤ (L + f - 1) / f ∧ (L + s - 1) / s ≤ 40 := by
    have hf : f = 1 ∨ f = 2 ∨ f = 3 := by omega
    have hs : s = 1 ∨ s = 2 ∨ s = 3 := by omega
    rcases hf with rfl | rfl | rfl <;> rcases hs with rfl | rfl | rfl <;> omega
  simp only [m_leg_speeds, lh, Option.bind_some]
  by_cases hc : n < (L + f - 1) / f ∨ (L + s - 1) / s < n
  · have hc' : (decide (n < (L + f - 1) / f) || decide ((L + s - 1) / s < n)) = true := by simpa using hc
    simp only [hc', if_true, Option.bind_some]
    rfl
  · have hc' : (decide (n < (L + f - 1) / f) || decide ((L + s - 1) / s < n)) = false := by simpa using hc
    simp only [hc', Bool.false_eq_true, if_false, pyLet]
    rw [rngDownO_ok (by omega) (by omega) (by omega) (by omega)]
    simp only [Option.bind_some]
    obtain ⟨m', hm⟩ := speeds_loop (L := L) (s := s) (f := f) (by omega) f1 n.toNat [] 0 (by show 0 + n.toNat ≤ 100; omega)
    have en : ((n.toNat : Nat) : Int) = n := by omega
    rw [en] at hm
    rw [hm]
    simp only [Option.bind_some, List.nil_append]
    have hlen : (sp L s f 0 n.toNat).length = n.toNat := sp_len L s f _ _
    have hn1 : L ≤ n * f := by
      have hf : f = 1 ∨ f = 2 ∨ f = 3 := by omega
      rcases hf with rfl | rfl | rfl <;> omega
    have hn2 : (n - 1) * s < L ∨ n = 0 := by
      have hs : s = 1 ∨ s = 2 ∨ s = 3 := by omega
      rcases hs with rfl | rfl | rfl <;> omega
    obtain ⟨m2, h2, h3⟩ := check_loop (L := L) (s := s) (f := f) (h := n) s0 s1 f1 (sp L s f 0 n.toNat) hn2 n.toNat [] 0 rfl (by show (0 : Int) + (n.toNat : Int) = n; omega) (by omega) (by rw [en]; omega) (.inl (by show (0 : Int) ≤ (0 : Int) * s; omega))
    have hh : m_l_speeds_hold (sp L s f 0 n.toNat) (L, s, f, n) = some true := by
      simp only [m_l_speeds_hold, pyLet]
      have e1 : decide (((sp L s f 0 n.toNat).length : Int) = n) = true := decide_eq_true (by omega)
      simp only [e1, Bool.not_true, Bool.or_self, Bool.false_eq_true, if_false]
      rw [rngO_ok (by omega) (by omega) (by omega) (by omega)]
      simp only [Option.bind_some]
      have h2' : forR (m_l_speeds_hold_b1 (sp L s f 0 n.toNat) (L, s, f, n)) 0 (rng 0 n) = some (.inr m2) := h2
      rw [h2']
      simp only [Option.bind_some, orR, h3, decide_true]
    rw [hh]
    simp only [Option.bind_some, Bool.not_true, Bool.false_eq_true, if_false]
    rw [app_ok (show (sp L s f 0 n.toNat).length < big by show (sp L s f 0 n.toNat).length < 1000000; omega)]
    rfl
theorem leg_ok {h : List Int} (hh : Hd h) : ∃ q, m_l_leg h = some q ∧ Leg q.1 := by
  simp only [m_l_leg, pyLet]
  obtain ⟨L, h1, e1, l0, l1, hh1⟩ := pick_ok hh (n := 41) (by decide) (by decide)
  rw [e1]; simp only [Option.bind_some]
  obtain ⟨t, h2, e2, t0, t1, hh2⟩ := pick_ok hh1 (n := 3) (by decide) (by decide)
  rw [e2]; simp only [Option.bind_some]
  obtain ⟨s, h3, e3, s0, s1, hh3⟩ := pick_ok hh2 (n := 1 + t) (by omega) (by omega)
  rw [e3]; simp only [Option.bind_some]
  rw [least_ok (by omega) (by omega) (by omega) (by omega), least_ok (by omega) (by omega) (by omega) (by omega)]
  simp only [Option.bind_some]
  obtain ⟨k, h4, e4, k0, k1, hh4⟩ := pick_ok hh3 (n := 4) (by decide) (by decide)
  rw [e4]; simp only [Option.bind_some]
  have ea : 0 ≤ (L + (1 + t) - 1) / (1 + t) ∧ (L + (1 + t) - 1) / (1 + t) ≤ (L + (1 + s) - 1) / (1 + s) ∧ (L + (1 + s) - 1) / (1 + s) ≤ 40 := by
    have ht : t = 0 ∨ t = 1 ∨ t = 2 := by omega
    have hs : s = 0 ∨ s = 1 ∨ s = 2 := by omega
    rcases ht with rfl | rfl | rfl <;> rcases hs with rfl | rfl | rfl <;> omega
  generalize (L + (1 + t) - 1) / (1 + t) = lo at ea ⊢
  generalize (L + (1 + s) - 1) / (1 + s) = hi at ea ⊢
  obtain ⟨r, h5, e5, r0, r1, hh5⟩ := pick_ok hh4 (n := hi - lo + 1) (by omega) (by omega)
  rw [e5]; simp only [Option.bind_some]
  have hj : ∃ p : List Int × Int, (if decide (k = 0) = true then (m_l_pick h5 2).bind fun q33 => (at_ [max 0 (lo - 1), hi + 1] q33.1).bind fun x36 => some (q33.2, x36) else some (h5, lo + r)) = some p ∧ Hd p.1 ∧ 0 ≤ p.2 ∧ p.2 ≤ 45 := by
    by_cases hk : k = 0
    · rw [if_pos (decide_eq_true hk)]
      obtain ⟨b, h6, e6, b0, b1, hh6⟩ := pick_ok hh5 (n := 2) (by decide) (by decide)
      rw [e6]; simp only [Option.bind_some]
      have hb : b = 0 ∨ b = 1 := by omega
      rcases hb with rfl | rfl
      · exact ⟨_, rfl, hh6, by show 0 ≤ max 0 (lo - 1); omega, by show max 0 (lo - 1) ≤ 45; omega⟩
      · exact ⟨_, rfl, hh6, by show 0 ≤ hi + 1; omega, by show hi + 1 ≤ 45; omega⟩
    · rw [if_neg (by simpa using hk)]
      exact ⟨_, rfl, hh5, by show 0 ≤ lo + r; omega, by show lo + r ≤ 45; omega⟩
  obtain ⟨⟨h7, n7⟩, e7, hh7, a7, b7⟩ := hj
  rw [e7]; simp only [Option.bind_some]
  have hj : ∃ p : List Int × Int, (if decide (k = 1) = true then (m_l_pick h7 46).bind fun q40 => some (q40.2, q40.1) else some (h7, n7)) = some p ∧ 0 ≤ p.2 ∧ p.2 ≤ 45 := by
    by_cases hk : k = 1
    · rw [if_pos (decide_eq_true hk)]
      obtain ⟨b, h6, e6, b0, b1, hh6⟩ := pick_ok hh7 (n := 46) (by decide) (by decide)
      rw [e6]
      exact ⟨_, rfl, b0, by show b ≤ 45; omega⟩
    · rw [if_neg (by simpa using hk)]
      exact ⟨_, rfl, a7, b7⟩
  obtain ⟨⟨h8, n8⟩, e8, a8, b8⟩ := hj
  rw [e8]
  exact ⟨_, rfl, ⟨l0, by show L ≤ 40; omega, by show 1 ≤ 1 + s; omega, by show 1 + s ≤ 1 + t; omega, by show 1 + t ≤ 3; omega, a8, b8⟩⟩
theorem law_true (s : List Int) (hs : s.length ≤ 63) : m_law s = some true := by
  simp only [m_law]
  obtain ⟨a, e1, ha⟩ := hand_ok s 0 (by decide)
  rw [e1]; simp only [Option.bind_some]
  obtain ⟨p, e2, hp⟩ := leg_ok ha
  rw [e2]; simp only [Option.bind_some]
  obtain ⟨b, e3, hb⟩ := hand_ok s 1 (by decide)
  rw [e3]; simp only [Option.bind_some]
  obtain ⟨q, e4, hq⟩ := leg_ok hb
  rw [e4]; simp only [Option.bind_some]
  have k0 : m_law_b1 p q () 0 = some (.inr ()) := by
    simp only [m_law_b1, at0, Option.bind_some, holds_ok hp]
    rfl
  have k1 : m_law_b1 p q () 1 = some (.inr ()) := by
    have e : at_ [p.1, q.1] 1 = some q.1 := rfl
    simp only [m_law_b1, e, Option.bind_some, holds_ok hq]
    rfl
  simp only [forR, k0, k1, Option.bind_some]
  rfl

end Mi
namespace G
open PySem PySem.Spec PyProof.Rows L2
/-! ### what never changes, and how a heap changes -/
def Froz : HO → Prop
  | .tup _ => True
  | .ins _ _ _ => True
  | .own _ => True
  | .frz _ _ => True
  | _ => False
structure Chg (M : List Addr) (H H' : Hp) : Prop where
  keep : ∀ b o, H b = some o → (b ∉ M ∨ Froz o) → H' b = some o
  dom : ∀ b, H' b = none → H b = none
theorem Chg.refl {M : List Addr} (H : Hp) : Chg M H H := ⟨fun _ _ h _ => h, fun _ h => h⟩
theorem Chg.trans {M : List Addr} {H H1 H2 : Hp} (a : Chg M H H1) (b : Chg M H1 H2) : Chg M H H2 :=
  ⟨fun x o h d => b.keep x o (a.keep x o h d) d, fun x h => a.dom x (b.dom x h)⟩
theorem Chg.mono {M N : List Addr} {H H' : Hp} (a : Chg M H H') (s : ∀ x ∈ M, x ∈ N) : Chg N H H' :=
  ⟨fun b o h d => a.keep b o h (d.imp (fun z y => z (s b y)) id), a.dom⟩
theorem Chg.none {M : List Addr} {H H' : Hp} (a : Chg [] H H') : Chg M H H' := a.mono (fun x h => nomatch h)
theorem Chg.new {M : List Addr} {H : Hp} {p : Addr} {o : HO} (np : H p = .none) : Chg M H (upd H p o) :=
  ⟨fun b u h _ => by rw [upd_ne (ne_of_none h np)]; exact h, fun b h => by
    by_cases e : b = p
    · subst e; exact np
    · rw [upd_ne e] at h; exact h⟩
theorem Chg.wr {H : Hp} {p : Addr} {o u : HO} (hp : H p = some u) (nf : ¬ Froz u) : Chg [p] H (upd H p o) :=
  ⟨fun b w h d => by
    have e : b ≠ p := by
      intro e; subst e
      rw [hp] at h; cases h
      rcases d with d | d
      · exact d (List.mem_singleton.mpr rfl)
      · exact nf d
    rw [upd_ne e]; exact h, fun b h => by
    by_cases e : b = p
    · subst e; rw [upd_same] at h; cases h
    · rw [upd_ne e] at h; exact h⟩
/-- what was made behind H0 may change -/
theorem Chg.loc {M N : List Addr} {H0 H H' : Hp} (a : Chg M H0 H) (b : Chg N H H') (fr : ∀ x ∈ N, H0 x = .none) : Chg M H0 H' :=
  ⟨fun x o h d => b.keep x o (a.keep x o h d) (.inl (fun z => by rw [fr x z] at h; cases h)), fun x h => a.dom x (b.dom x h)⟩
/-- the part N of M, and what was made behind H0, may change -/
theorem Chg.join {M N : List Addr} {H0 H H' : Hp} (a : Chg M H0 H) (b : Chg N H H') (fr : ∀ x ∈ N, x ∈ M ∨ H0 x = .none) : Chg M H0 H' :=
  ⟨fun x o h d => b.keep x o (a.keep x o h d) (by
    rcases d with d | d
    · refine .inl (fun z => ?_)
      rcases fr x z with y | y
      · exact d y
      · rw [y] at h; cases h
    · exact .inr d), fun x h => a.dom x (b.dom x h)⟩
theorem Chg.free {M : List Addr} {H H' : Hp} (a : Chg M H H') {p : Addr} (np : H' p = .none) : H p = .none := a.dom p np
/-! ### kinds of data -/
structure Ty (α : Type) where
  rep : PySem.W.Frag → Hp → List Addr → V → α → Prop
  keep : ∀ {K : PySem.W.Frag} {H H' : Hp} {F : List Addr} {v : V} {d : α}, rep K H F v d → (∀ b o, H b = some o → (b ∈ F ∨ Froz o) → H' b = some o) → rep K H' F v d
  dom : ∀ {K : PySem.W.Frag} {H : Hp} {F : List Addr} {v : V} {d : α}, rep K H F v d → ∀ b ∈ F, ∃ o, H b = some o ∧ ¬ Froz o
/-- a and b have nothing in common -/
def Dj (F G : List Addr) : Prop := ∀ a ∈ F, a ∉ G
theorem Dj.symm {F G : List Addr} (d : Dj F G) : Dj G F := fun a h z => d a z h
theorem Dj.nil {F : List Addr} : Dj [] F := fun a h => nomatch h
theorem Dj.nilR {F : List Addr} : Dj F [] := fun a h z => nomatch z
section
variable {α β : Type} {τ : Ty α} {υ : Ty β} {K : PySem.W.Frag} {H H' : Hp} {F G M : List Addr} {v u : V} {d : α} {p : Addr}
theorem Ty.chg (r : τ.rep K H F v d) (c : Chg M H H') (dj : Dj F M) : τ.rep K H' F v d :=
  τ.keep r fun b o h z => c.keep b o h (z.imp (fun y => dj b y) id)
theorem Ty.ex (r : τ.rep K H F v d) (c : Chg [] H H') : τ.rep K H' F v d := Ty.chg r c Dj.nilR
theorem Ty.fz (r : τ.rep K H [] v d) (c : Chg M H H') : τ.rep K H' [] v d := Ty.chg r c Dj.nil
theorem Ty.nin (r : τ.rep K H F v d) (np : H p = none) : Dj F [p] := fun a h z => by
  rw [List.mem_singleton] at z; subst z
  obtain ⟨o, e, _⟩ := τ.dom r a h
  rw [np] at e; cases e
theorem Ty.fresh (r : τ.rep K H F v d) (np : ∀ a ∈ G, H a = none) : Dj F G := fun a h z => by
  obtain ⟨o, e, _⟩ := τ.dom r a h
  rw [np a z] at e; cases e
end
theorem one_fresh {H : Hp} {p : Addr} (np : H p = none) : ∀ a ∈ [p], H a = none := fun a h => by
  rw [List.mem_singleton] at h; subst h; exact np
/-! ### flat data -/
def yInt : Ty Int := ⟨fun _ _ F v d => F = [] ∧ v = .int d, fun h _ => h, fun h b m => by rw [h.1] at m; cases m⟩
def yBool : Ty Bool := ⟨fun _ _ F v d => F = [] ∧ v = .bl d, fun h _ => h, fun h b m => by rw [h.1] at m; cases m⟩
def yStr : Ty Str := ⟨fun _ _ F v d => F = [] ∧ v = .str d, fun h _ => h, fun h b m => by rw [h.1] at m; cases m⟩
def yNon : Ty Unit := ⟨fun _ _ F v _ => F = [] ∧ v = .non, fun h _ => h, fun h b m => by rw [h.1] at m; cases m⟩
theorem yInt_i {K : PySem.W.Frag} {H : Hp} {i : Int} : yInt.rep K H [] (.int i) i := ⟨rfl, rfl⟩
theorem yBool_i {K : PySem.W.Frag} {H : Hp} {i : Bool} : yBool.rep K H [] (.bl i) i := ⟨rfl, rfl⟩
theorem yStr_i {K : PySem.W.Frag} {H : Hp} {i : Str} : yStr.rep K H [] (.str i) i := ⟨rfl, rfl⟩
theorem yNon_i {K : PySem.W.Frag} {H : Hp} : yNon.rep K H [] .non () := ⟨rfl, rfl⟩
/-- None or data -/
def yOpt {α : Type} (τ : Ty α) : Ty (Option α) where
  rep K H F v d := match d with
    | none => F = [] ∧ v = .non
    | some x => v ≠ .non ∧ τ.rep K H F v x
  keep {K H H' F v d} h k := by
    cases d with
    | none => exact h
    | some x => exact ⟨h.1, τ.keep h.2 k⟩
  dom {K H F v d} h b m := by
    cases d with
    | none => rw [h.1] at m; cases m
    | some x => exact τ.dom h.2 b m
/-- a list whose items never change -/
def yLst {α : Type} (τ : Ty α) : Ty (List α) where
  rep K H F v xs := ∃ a vs, v = .ref a ∧ F = [a] ∧ H a = some (.lst vs) ∧ Paired (fun u x => τ.rep K H [] u x) vs xs
  keep {K H H' F v xs} h k := by
    obtain ⟨a, vs, e, f, g, r⟩ := h
    subst f
    exact ⟨a, vs, e, rfl, k a _ g (.inl (List.mem_singleton.mpr rfl)), Paired.mapP r fun u x q => τ.keep q fun b o hb z => k b o hb (z.elim (fun y => nomatch y) .inr)⟩
  dom {K H F v xs} h b m := by
    obtain ⟨a, vs, e, f, g, r⟩ := h
    subst f
    rw [List.mem_singleton] at m; subst m
    exact ⟨_, g, fun z => z⟩
theorem SqT.keeps {K : PySem.W.Frag} {H H' : Hp} {a : Addr} {vs : List V} (s : SqT K H a vs) (k : ∀ b o, H b = some o → Froz o → H' b = some o) : SqT K H' a vs := by
  rcases s with (s | ⟨o, s⟩) | s
  · exact .inl (.inl (k _ _ s trivial))
  · exact .inl (.inr ⟨o, k _ _ s trivial⟩)
  · exact .inr s
/-- the items of a tuple -/
structure Tys (α : Type) where
  rep : PySem.W.Frag → Hp → List Addr → List V → α → Prop
  keep : ∀ {K : PySem.W.Frag} {H H' : Hp} {F : List Addr} {v : List V} {d : α}, rep K H F v d → (∀ b o, H b = some o → (b ∈ F ∨ Froz o) → H' b = some o) → rep K H' F v d
  dom : ∀ {K : PySem.W.Frag} {H : Hp} {F : List Addr} {v : List V} {d : α}, rep K H F v d → ∀ b ∈ F, ∃ o, H b = some o ∧ ¬ Froz o
def sOne {α : Type} (τ : Ty α) : Tys α where
  rep K H F vs x := ∃ v, vs = [v] ∧ τ.rep K H F v x
  keep h k := by obtain ⟨v, e, r⟩ := h; exact ⟨v, e, τ.keep r k⟩
  dom h b m := by obtain ⟨v, e, r⟩ := h; exact τ.dom r b m
def sCons {α β : Type} (τ : Ty α) (ts : Tys β) : Tys (α × β) where
  rep K H F vs x := ∃ v ws F1 F2, vs = v :: ws ∧ F = F1 ++ F2 ∧ τ.rep K H F1 v x.1 ∧ ts.rep K H F2 ws x.2
  keep {K H H' F v d} h k := by
    obtain ⟨v, ws, F1, F2, e, f, r, q⟩ := h
    subst f
    exact ⟨v, ws, F1, F2, e, rfl, τ.keep r fun b o hb z => k b o hb (z.imp (fun y => List.mem_append_left _ y) id), ts.keep q fun b o hb z => k b o hb (z.imp (fun y => List.mem_append_right _ y) id)⟩
  dom {K H F v d} h b m := by
    obtain ⟨v, ws, F1, F2, e, f, r, q⟩ := h
    subst f
    rcases List.mem_append.mp m with m | m
    · exact τ.dom r b m
    · exact ts.dom q b m
def yTup {α : Type} (ts : Tys α) : Ty α where
  rep K H F v d := ∃ a vs, v = .ref a ∧ SqT K H a vs ∧ ts.rep K H F vs d
  keep h k := by
    obtain ⟨a, vs, e, s, r⟩ := h
    exact ⟨a, vs, e, SqT.keeps s fun b o hb z => k b o hb (.inr z), ts.keep r k⟩
  dom h b m := by obtain ⟨a, vs, e, s, r⟩ := h; exact ts.dom r b m
/-- a tuple of any number of things of one kind that never change -/
def yTupL {α : Type} (τ : Ty α) : Ty (List α) where
  rep K H F v xs := ∃ a vs, v = .ref a ∧ F = [] ∧ SqT K H a vs ∧ Paired (fun u x => τ.rep K H [] u x) vs xs
  keep {K H H' F v xs} h k := by
    obtain ⟨a, vs, e, f, g, r⟩ := h
    exact ⟨a, vs, e, f, SqT.keeps g fun b o hb z => k b o hb (.inr z), Paired.mapP r fun u x q => τ.keep q fun b o hb z => k b o hb (z.elim (fun y => nomatch y) .inr)⟩
  dom {K H F v xs} h b m := by
    obtain ⟨a, vs, e, f, g, r⟩ := h
    rw [f] at m; cases m
/-- the script -/
def yScr : Ty (List Int) where
  rep K H F v xs := F = [] ∧ ∃ a, v = .ref a ∧ ∀ H', (∀ b o, H b = some o → Froz o → H' b = some o) → SqL K H' a (xs.map V.int)
  keep {K H H' F v xs} h k := by
    obtain ⟨f, a, e, g⟩ := h
    exact ⟨f, a, e, fun H2 k2 => g H2 fun b o hb z => k2 b o (k b o hb (.inr z)) z⟩
  dom {K H F v xs} h b m := by
    rw [h.1] at m; cases m
theorem yScr_of {K : PySem.W.Frag} {H : Hp} {a : Addr} {ns : List Int} (o : Only H) (s : SqL K H a (ns.map V.int)) : yScr.rep K H [] (.ref a) ns := by
  refine ⟨rfl, a, rfl, fun H' k => ?_⟩
  rcases s with (s | ⟨ob, s⟩) | s
  · rcases o a with z | ⟨_, _, z⟩
    · rw [z] at s; cases s
    · rw [z] at s; cases s
  · exact .inl (.inr ⟨ob, k _ _ s trivial⟩)
  · exact .inr s
end G

namespace G
open PySem PySem.Spec PyProof.Rows L2
theorem at_eq {α : Type} (xs : List α) (i : Int) : L2.atI xs i = Mi.at_ xs i := rfl
theorem ixN_eq (n : Nat) (i : Int) : L2.ixN n i = Mi.ixN n i := rfl
theorem line_big : Mi.big ≤ sizeLine := by rw [sizeLine_eq]; decide
section paired
variable {α β γ : Type} {R : α → β → Prop}
theorem pr_len {xs : List α} {ys : List β} (r : Paired R xs ys) : xs.length = ys.length := Paired.length r
theorem pr_get : ∀ {xs : List α} {ys : List β} {j : Nat} {y : β}, Paired R xs ys → ys[j]? = some y → ∃ x, xs[j]? = some x ∧ R x y
  | _, _, _, _, .nil, e => by simp at e
  | _, _, 0, _, .cons r _, e => by simp at e; subst e; exact ⟨_, rfl, r⟩
  | _, _, j + 1, y, .cons _ t, e => by
    obtain ⟨u, h1, h2⟩ := pr_get (j := j) (y := y) t (by simpa using e)
    exact ⟨u, by simpa using h1, h2⟩
theorem pr_getL : ∀ {xs : List α} {ys : List β} {j : Nat} {x : α}, Paired R xs ys → xs[j]? = some x → ∃ y, ys[j]? = some y ∧ R x y
  | _, _, _, _, .nil, e => by simp at e
  | _, _, 0, _, .cons r _, e => by simp at e; subst e; exact ⟨_, rfl, r⟩
  | _, _, j + 1, y, .cons _ t, e => by
    obtain ⟨u, h1, h2⟩ := pr_getL (j := j) (x := y) t (by simpa using e)
    exact ⟨u, by simpa using h1, h2⟩
theorem pr_set {x : α} {y : β} (r : R x y) : ∀ {xs : List α} {ys : List β} (i : Nat), Paired R xs ys → Paired R (xs.set i x) (ys.set i y)
  | _, _, _, .nil => .nil
  | _, _, 0, .cons _ t => .cons r t
  | _, _, i + 1, .cons q t => .cons q (pr_set r i t)
theorem pr_app : ∀ {xs zs : List α} {ys ws : List β}, Paired R xs ys → Paired R zs ws → Paired R (xs ++ zs) (ys ++ ws)
  | _, _, _, _, .nil, s => s
  | _, _, _, _, .cons r t, s => .cons r (pr_app t s)
theorem pr_take : ∀ {xs : List α} {ys : List β} (n : Nat), Paired R xs ys → Paired R (xs.take n) (ys.take n)
  | _, _, 0, _ => .nil
  | _, _, _ + 1, .nil => .nil
  | _, _, n + 1, .cons r t => .cons r (pr_take n t)
theorem pr_drop : ∀ {xs : List α} {ys : List β} (n : Nat), Paired R xs ys → Paired R (xs.drop n) (ys.drop n)
  | _, _, 0, r => r
  | _, _, _ + 1, .nil => .nil
  | _, _, n + 1, .cons _ t => pr_drop n t
theorem pr_at {xs : List α} {ys : List β} {i : Int} {y : β} (r : Paired R xs ys) (h : Mi.at_ ys i = some y) : ∃ x, L2.atI xs i = some x ∧ R x y := by
  rw [at_eq]
  unfold Mi.at_ at h ⊢
  rw [pr_len r]
  obtain ⟨j, e, h⟩ := Mi.bnd h
  obtain ⟨x, e2, q⟩ := pr_get r h
  exact ⟨x, by rw [e]; exact e2, q⟩
theorem pr_map (f : β → α) (h : ∀ b, R (f b) b) : ∀ ys : List β, Paired R (ys.map f) ys
  | [] => .nil
  | y :: ys => .cons (h y) (pr_map f h ys)
theorem pr_of_map (f : β → α) (h : ∀ a b, R a b → a = f b) : ∀ {xs : List α} {ys : List β}, Paired R xs ys → xs = ys.map f
  | _, _, .nil => rfl
  | _, _, .cons r t => by rw [h _ _ r, pr_of_map f h t]; rfl
end paired
theorem ints_of {K : PySem.W.Frag} {H : Hp} {vs : List V} {ns : List Int} (r : Paired (fun u x => yInt.rep K H [] u x) vs ns) : vs = ns.map V.int := pr_of_map V.int (fun _ _ q => q.2) r
theorem ints_mk {K : PySem.W.Frag} {H : Hp} (ns : List Int) : Paired (fun u x => yInt.rep K H [] u x) (ns.map V.int) ns := pr_map V.int (fun _ => ⟨rfl, rfl⟩) ns
/-! ### values without a change of the heap -/
section vals
variable {K : PySem.W.Frag} {σ : L2.St} {H : Hp} {F : List Addr} {ta tb te : TE} {v u x y : V} {i j : Int} {t : TT} {b c : Bool} {α β : Type} {τ : Ty α}
theorem val_I0 {g : Int → Int → V} (ha : Val ta σ H (.int i)) (hb : Val tb σ H (.int j)) : Val (tOp (rI0 g) ta tb) σ H (g i j) := val_op ha hb fun Q q => ⟨i, j, rfl, rfl, q⟩
theorem val_I {C : Int → Int → Prop} {g : Int → Int → V} (ha : Val ta σ H (.int i)) (hb : Val tb σ H (.int j)) (hc : C i j) : Val (tOp (rI C g) ta tb) σ H (g i j) := val_op ha hb fun Q q => ⟨i, j, rfl, rfl, hc, q⟩
theorem val_U {g : Int → V} (ha : Val ta σ H (.int i)) : Val (tUn (rU g) ta) σ H (g i) := fun Q q => ha _ ⟨i, rfl, q⟩
theorem dI {i j : Int} : decide (V.int i = V.int j) = decide (i = j) := by
  by_cases e : i = j
  · subst e; simp
  · rw [decide_eq_false e, decide_eq_false (fun q => e (V.int.inj q))]
theorem dB {i j : Bool} : decide (V.bl i = V.bl j) = decide (i = j) := by
  by_cases e : i = j
  · subst e; simp
  · rw [decide_eq_false e, decide_eq_false (fun q => e (V.bl.inj q))]
theorem dS {i j : Str} : decide (V.str i = V.str j) = decide (i = j) := by
  by_cases e : i = j
  · subst e; simp
  · rw [decide_eq_false e, decide_eq_false (fun q => e (V.str.inj q))]
theorem val_eqI (ha : Val ta σ H (.int i)) (hb : Val tb σ H (.int j)) : Val (tOp rEq ta tb) σ H (.bl (decide (i = j))) := val_op ha hb fun Q q => ⟨rfl, by rw [dI]; exact q⟩
theorem val_neI (ha : Val ta σ H (.int i)) (hb : Val tb σ H (.int j)) : Val (tOp rNe ta tb) σ H (.bl (!decide (i = j))) := val_op ha hb fun Q q => ⟨rfl, by rw [dI]; exact q⟩
theorem val_eqB (ha : Val ta σ H (.bl b)) (hb : Val tb σ H (.bl c)) : Val (tOp rEq ta tb) σ H (.bl (decide (b = c))) := val_op ha hb fun Q q => ⟨rfl, by rw [dB]; exact q⟩
theorem val_neB (ha : Val ta σ H (.bl b)) (hb : Val tb σ H (.bl c)) : Val (tOp rNe ta tb) σ H (.bl (!decide (b = c))) := val_op ha hb fun Q q => ⟨rfl, by rw [dB]; exact q⟩
theorem val_is {w : V} (h : Val te σ H v) (e : v = w) : Val te σ H w := e ▸ h
theorem ans_is (h : Ans t σ H b) (e : b = c) : Ans t σ H c := e ▸ h
theorem mulC {i j r : Int} (h : Mi.mul i j = some r) : CMul i j ∧ i * j = r := by
  unfold Mi.mul at h
  split at h
  · exact ⟨by assumption, Option.some.inj h⟩
  · cases h
theorem modC {i j r : Int} (h : Mi.mod i j = some r) : 0 < j ∧ i % j = r := by
  unfold Mi.mod at h
  split at h
  · exact ⟨by assumption, Option.some.inj h⟩
  · cases h
theorem divC {i j r : Int} (h : Mi.fdiv i j = some r) : CDivW i j ∧ i / j = r := by
  unfold Mi.fdiv at h
  split at h
  · rename_i hc
    refine ⟨wide_div (b := 200) hc.1 ?_ (by decide) (by decide), Option.some.inj h⟩
    omega
  · cases h
theorem val_mul {r : Int} (ha : Val ta σ H (.int i)) (hb : Val tb σ H (.int j)) (h : Mi.mul i j = some r) : Val (tOp (rI CMul fun i j => .int (i * j)) ta tb) σ H (.int r) := val_is (val_I ha hb (mulC h).1) (by rw [(mulC h).2])
theorem val_mod {r : Int} (ha : Val ta σ H (.int i)) (hb : Val tb σ H (.int j)) (h : Mi.mod i j = some r) : Val (tOp (rI (fun _ j => 0 < j) fun i j => .int (i % j)) ta tb) σ H (.int r) := val_is (val_I ha hb (modC h).1) (by rw [(modC h).2])
theorem val_fdiv {r : Int} (ha : Val ta σ H (.int i)) (hb : Val tb σ H (.int j)) (h : Mi.fdiv i j = some r) : Val (tOp (rI CDivW fun i j => .int (i / j)) ta tb) σ H (.int r) := val_is (val_I ha hb (divC h).1) (by rw [(divC h).2])
theorem ans_t (h : Val te σ H (.bl b)) : Ans (tTest te) σ H b := fun Q q => h _ ⟨b, rfl, q⟩
/-- int(n) -/
def rInt1 : List V → Hp → VK → Prop := fun xs H Q => (∃ i, xs = [.int i] ∧ Q (.int i) H) ∨ ∃ k, xs = [.bl k] ∧ Q (.int (if k then 1 else 0)) H
theorem cl_int {X : Cx} : CallR X (.type "int") rInt1 := call_int1
theorem val_int (ha : Val ta σ H (.int i)) : Val (tCB rInt1 (tCons ta tNil)) σ H (.int i) := fun Q q => ha _ (.inl ⟨i, rfl, q⟩)
def rMax2 : List V → Hp → VK → Prop := fun xs H Q => ∃ i j, xs = [.int i, .int j] ∧ Q (.int (if j > i then j else i)) H
def rMin2 : List V → Hp → VK → Prop := fun xs H Q => ∃ i j, xs = [.int i, .int j] ∧ Q (.int (if j < i then j else i)) H
theorem cl_max2 {X : Cx} (hc : X.calm = true) : CallR X (.builtin "max") rMax2 := call_max2 hc
theorem cl_min2 {X : Cx} (hc : X.calm = true) : CallR X (.builtin "min") rMin2 := call_min2 hc
theorem val_max2 (ha : Val ta σ H (.int i)) (hb : Val tb σ H (.int j)) : Val (tCB rMax2 (tCons ta (tCons tb tNil))) σ H (.int (max i j)) := fun Q q => ha _ (hb _ ⟨i, j, rfl, by
  have e : (if j > i then j else i) = max i j := by split <;> omega
  rw [e]; exact q⟩)
theorem val_min2 (ha : Val ta σ H (.int i)) (hb : Val tb σ H (.int j)) : Val (tCB rMin2 (tCons ta (tCons tb tNil))) σ H (.int (min i j)) := fun Q q => ha _ (hb _ ⟨i, j, rfl, by
  have e : (if j < i then j else i) = min i j := by split <;> omega
  rw [e]; exact q⟩)
/-- len of a list or tuple -/
def rLenQ (K : PySem.W.Frag) : List V → Hp → VK → Prop := fun xs H Q => ∃ p ys, xs = [.ref p] ∧ (SqL K H p ys ∨ SqT K H p ys) ∧ Q (.int ys.length) H
theorem cl_len {X : Cx} {K : PySem.W.Frag} (e : X.K = K := by rfl) : CallR X (.builtin "len") (rLenQ K) := by subst e; exact call_len_seq
theorem lst_sq {xs : List α} (r : (yLst τ).rep K H F v xs) : ∃ a vs, v = .ref a ∧ SqL K H a vs ∧ Paired (fun u x => τ.rep K H [] u x) vs xs := by
  obtain ⟨a, vs, e, f, g, q⟩ := r
  exact ⟨a, vs, e, .inl (.inl g), q⟩
theorem tupl_sq {xs : List α} (r : (yTupL τ).rep K H F v xs) : ∃ a vs, v = .ref a ∧ SqT K H a vs ∧ Paired (fun u x => τ.rep K H [] u x) vs xs := by
  obtain ⟨a, vs, e, f, g, q⟩ := r
  exact ⟨a, vs, e, g, q⟩
theorem scr_sq {xs : List Int} (r : yScr.rep K H F v xs) : ∃ a vs, v = .ref a ∧ SqL K H a vs ∧ Paired (fun u x => yInt.rep K H [] u x) vs xs := by
  obtain ⟨f, a, e, g⟩ := r
  exact ⟨a, _, e, g H fun _ _ h _ => h, ints_mk xs⟩
theorem val_lenL {xs : List α} (r : (yLst τ).rep K H F v xs) (ha : Val ta σ H v) : Val (tCB (rLenQ K) (tCons ta tNil)) σ H (.int (xs.length : Int)) := by
  obtain ⟨a, vs, e, s, q⟩ := lst_sq r
  subst e
  exact fun Q k => ha _ ⟨a, vs, rfl, .inl s, by rw [pr_len q]; exact k⟩
theorem val_lenT {xs : List α} (r : (yTupL τ).rep K H F v xs) (ha : Val ta σ H v) : Val (tCB (rLenQ K) (tCons ta tNil)) σ H (.int (xs.length : Int)) := by
  obtain ⟨a, vs, e, s, q⟩ := tupl_sq r
  subst e
  exact fun Q k => ha _ ⟨a, vs, rfl, .inr s, by rw [pr_len q]; exact k⟩
theorem val_lenS {xs : List Int} (r : yScr.rep K H F v xs) (ha : Val ta σ H v) : Val (tCB (rLenQ K) (tCons ta tNil)) σ H (.int (xs.length : Int)) := by
  obtain ⟨a, vs, e, s, q⟩ := scr_sq r
  subst e
  exact fun Q k => ha _ ⟨a, vs, rfl, .inl s, by rw [pr_len q]; exact k⟩
/-- items -/
theorem ix_l {X : Cx} {K : PySem.W.Frag} (e : X.K = K := by rfl) : IxR X (rIxL K) := by subst e; exact ix_list
theorem ix_t {X : Cx} {K : PySem.W.Frag} (e : X.K = K := by rfl) : IxR X (rIxT K) := by subst e; exact ix_tup
/-- the item's own value, by its data -/
theorem itm_L {xs : List α} {x : α} (r : (yLst τ).rep K H F v xs) (h : Mi.at_ xs i = some x) :
    ∃ u, τ.rep K H [] u x ∧ ∀ {σ : L2.St} {ta tb : TE}, Val ta σ H v → Val tb σ H (.int i) → Val (tOp (rIxL K) ta tb) σ H u := by
  obtain ⟨a, vs, e, s, q⟩ := lst_sq r
  subst e
  obtain ⟨u, e, ru⟩ := pr_at q h
  exact ⟨u, ru, fun ha hb => val_op ha hb fun Q k => ⟨a, vs, i, u, rfl, rfl, s, e, k⟩⟩
theorem itm_T {xs : List α} {x : α} (r : (yTupL τ).rep K H F v xs) (h : Mi.at_ xs i = some x) :
    ∃ u, τ.rep K H [] u x ∧ ∀ {σ : L2.St} {ta tb : TE}, Val ta σ H v → Val tb σ H (.int i) → Val (tOp (rIxT K) ta tb) σ H u := by
  obtain ⟨a, vs, e, s, q⟩ := tupl_sq r
  subst e
  obtain ⟨u, e, ru⟩ := pr_at q h
  exact ⟨u, ru, fun ha hb => val_op ha hb fun Q k => ⟨a, vs, i, u, rfl, rfl, s, e, k⟩⟩
theorem itm_S {xs : List Int} {x : Int} (r : yScr.rep K H F v xs) (h : Mi.at_ xs i = some x) {σ : L2.St} {ta tb : TE} (ha : Val ta σ H v) (hb : Val tb σ H (.int i)) : Val (tOp (rIxL K) ta tb) σ H (.int x) := by
  obtain ⟨a, vs, e, s, q⟩ := scr_sq r
  subst e
  obtain ⟨u, e, ru⟩ := pr_at q h
  obtain ⟨_, rfl⟩ := ru
  exact val_op ha hb fun Q k => ⟨a, vs, i, _, rfl, rfl, s, e, k⟩
/-- ints in lists -/
theorem itm_LI {xs : List Int} {x : Int} (r : (yLst yInt).rep K H F v xs) (h : Mi.at_ xs i = some x) {σ : L2.St} {ta tb : TE} (ha : Val ta σ H v) (hb : Val tb σ H (.int i)) : Val (tOp (rIxL K) ta tb) σ H (.int x) := by
  obtain ⟨u, ⟨_, rfl⟩, k⟩ := itm_L r h
  exact k ha hb
theorem itm_TI {xs : List Int} {x : Int} (r : (yTupL yInt).rep K H F v xs) (h : Mi.at_ xs i = some x) {σ : L2.St} {ta tb : TE} (ha : Val ta σ H v) (hb : Val tb σ H (.int i)) : Val (tOp (rIxT K) ta tb) σ H (.int x) := by
  obtain ⟨u, ⟨_, rfl⟩, k⟩ := itm_T r h
  exact k ha hb
/-! ### isinstance -/
theorem cl_isi {X : Cx} {K : PySem.W.Frag} (e : X.K = K := by rfl) : CallR X (.builtin "isinstance") (rIsi K) := by subst e; exact call_isi
theorem val_isi {n m : String} {b : Bool} (ha : Val ta σ H v) (ht : TyX K H v (.type n)) (h : kitB n m = some b) : Val (tCB (rIsi K) (tCons ta (tCons (tC (.ty m)) tNil))) σ H (.bl b) := fun Q q =>
  ha _ ⟨v, .ty m, .type n, .type m, b, rfl, .ty m, ht, kit_ty h, q⟩
theorem ty_int : TyX K H (.int i) (.type "int") := .base (.int i)
theorem ty_bl : TyX K H (.bl b) (.type "bool") := .base (.bl b)
theorem ty_str {s : Str} : TyX K H (.str s) (.type "str") := .base (.str s)
theorem ty_non : TyX K H .non (.type "NoneType") := .base .non
theorem ty_lst {xs : List α} (r : (yLst τ).rep K H F v xs) : TyX K H v (.type "list") := by
  obtain ⟨a, vs, rfl, f, g, q⟩ := r
  exact .base (.lst g)
theorem ty_sqt {a : Addr} {vs : List V} (s : SqT K H a vs) : TyX K H (.ref a) (.type "tuple") := by
  rcases s with (s | ⟨o, s⟩) | ⟨o, its, n, e, c, _⟩
  · exact .base (.tup s)
  · exact .fTuple s
  · exact .kTuple e c
theorem ty_tupl {xs : List α} (r : (yTupL τ).rep K H F v xs) : TyX K H v (.type "tuple") := by
  obtain ⟨a, vs, rfl, s, q⟩ := tupl_sq r
  exact ty_sqt s
theorem ty_tup {ts : Tys α} {d : α} (r : (yTup ts).rep K H F v d) : TyX K H v (.type "tuple") := by
  obtain ⟨a, vs, rfl, s, q⟩ := r
  exact ty_sqt s
end vals
/-! ### going on behind an expression -/
section cps
variable {K : PySem.W.Frag} {σ σ' : L2.St} {H : Hp} {F : List Addr} {ta tb te : TE} {v u x y : V} {i j : Int} {t : TT} {b c : Bool} {α β : Type} {τ : Ty α} {Q : VK} {D : Ends} {t1 t2 : TS}
theorem c_val (h : Val te σ H v) (k : Q v H) : te σ H Q := h Q k
theorem c_ans {Q : Bool → Hp → Prop} (h : Ans t σ H b) (k : Q b H) : t σ H Q := h Q k
theorem c_if {A B : Prop} (h1 : b = true → A) (h2 : b = false → B) : if b = true then A else B := by
  cases b with
  | true => exact iteT (h1 rfl)
  | false => exact iteF (h2 rfl)
theorem s_if (h : Ans t σ H b) (h1 : b = true → t1 D σ H) (h2 : b = false → t2 D σ H) : tIfS t t1 t2 D σ H := h _ (c_if h1 h2)
/-- x = e -/
theorem s_set {i : Nat} (h : Val te σ H v) (e : σ.set i (some v) = σ') (k : D.nx σ' H) : tAsg te (gName i) D σ H := h _ (by show D.nx (σ.set i (some v)) H; rw [e]; exact k)
theorem s_setI {i : Nat} {n m : Int} (h : Val te σ H (.int n)) (en : n = m) (e : σ.set i (some (.int m)) = σ') (k : D.nx σ' H) : tAsg te (gName i) D σ H := s_set (v := .int m) (en ▸ h) e k
theorem s_seq (h : t1 { D with nx := t2 D } σ H) : tSeq t1 t2 D σ H := h
/-- a join: R is what holds where the ways come together -/
theorem s_join {R : L2.St → Hp → Prop} (w : ∀ nx : L2.St → Hp → Prop, (∀ σ' H', R σ' H' → nx σ' H') → t1 { D with nx := nx } σ H) (k : ∀ σ' H', R σ' H' → t2 D σ' H') : tSeq t1 t2 D σ H := w _ k
theorem g_name {i : Nat} {Q : L2.St → Hp → Prop} (e : σ.set i (some v) = σ') (k : Q σ' H) : gName i v σ H Q := by show Q (σ.set i (some v)) H; rw [e]; exact k
theorem g_nameI {i : Nat} {n m : Int} {Q : L2.St → Hp → Prop} (en : n = m) (e : σ.set i (some (.int m)) = σ') (k : Q σ' H) : gName i (.int n) σ H Q := g_name (v := .int n) (by rw [en]; exact e) k
/-- a list, a tuple is made -/
theorem sz {n : Nat} (h : n ≤ Mi.big) : n ≤ sizeLine := Nat.le_trans h line_big
theorem c_lst {ts : TA} (h : ts σ H fun xs H1 => xs.length ≤ Mi.big ∧ ∀ p, H1 p = none → Q (.ref p) (upd H1 p (.lst xs))) (mono : ∀ Q Q' : List V → Hp → Prop, (∀ xs H1, Q xs H1 → Q' xs H1) → ts σ H Q → ts σ H Q') : L2.tLst ts σ H Q := mono _ _ (fun xs H1 z => ⟨sz z.1, z.2⟩) h
/-- values of arguments -/
def VaA (t : TA) (σ : L2.St) (H : Hp) (vs : List V) : Prop := ∀ Q : List V → Hp → Prop, Q vs H → t σ H Q
theorem va_nil : VaA tNil σ H [] := fun Q q => q
theorem va_cons {tr : TA} {vs : List V} (h : Val ta σ H v) (r : VaA tr σ H vs) : VaA (tCons ta tr) σ H (v :: vs) := fun Q q => h _ (r _ q)
theorem n_lst {ts : TA} {vs : List V} {xs : List α} (h : VaA ts σ H vs) (z : vs.length ≤ Mi.big) (r : Paired (fun u x => τ.rep K H [] u x) vs xs)
    (k : ∀ p H', H p = none → Chg [] H H' → (yLst τ).rep K H' [p] (.ref p) xs → Q (.ref p) H') : L2.tLst ts σ H Q := h _ ⟨sz z, fun p np => k p _ np (Chg.new np)
      ⟨p, vs, rfl, rfl, upd_same, Paired.mapP r fun u x q => Ty.ex q (Chg.new np)⟩⟩
theorem n_tup {ts : TA} {ty : Tys α} {vs : List V} {d : α} {F : List Addr} (h : VaA ts σ H vs) (z : vs.length ≤ Mi.big) (r : ty.rep K H F vs d)
    (k : ∀ p H', H p = none → Chg [] H H' → (yTup ty).rep K H' F (.ref p) d → Q (.ref p) H') : L2.tTup ts σ H Q := h _ ⟨sz z, fun p np => k p _ np (Chg.new np)
      ⟨p, vs, rfl, .inl (.inl upd_same), ty.keep r fun b o e _ => by rw [upd_ne (ne_of_none e np)]; exact e⟩⟩
/-- xs.append(e) -/
theorem m_app {xs ys : List α} {d : α} (r : (yLst τ).rep K H F v xs) (ru : τ.rep K H [] u d) (hm : Mi.app xs d = some ys) (k : ∀ H', Chg F H H' → (yLst τ).rep K H' F v ys → Q .non H') : rAppend v [u] H Q := by
  obtain ⟨p, vs, rfl, rfl, g, q⟩ := r
  unfold Mi.app at hm
  split at hm
  · rename_i hz
    cases hm
    have c : Chg [p] H (upd H p (.lst (vs ++ [u]))) := Chg.wr g (fun z => z)
    refine ⟨p, vs, u, rfl, rfl, g, Nat.lt_of_lt_of_le (by rw [pr_len q]; exact hz) line_big, k _ c ⟨p, _, rfl, rfl, upd_same, ?_⟩⟩
    exact pr_app (Paired.mapP q fun _ _ z => Ty.fz z c) (.cons (Ty.fz ru c) .nil)
  · cases hm
/-- xs[i] = e -/
theorem m_set {xs ys : List α} {d : α} {Q : Hp → Prop} (r : (yLst τ).rep K H F v xs) (ru : τ.rep K H [] u d) (hm : Mi.setAt xs i d = some ys) (k : ∀ H', Chg F H H' → (yLst τ).rep K H' F v ys → Q H') : rSetL v (.int i) u H Q := by
  obtain ⟨p, vs, rfl, rfl, g, q⟩ := r
  unfold Mi.setAt at hm
  obtain ⟨j, e, hm⟩ := Mi.bnd hm
  cases hm
  have c : Chg [p] H (upd H p (.lst (vs.set j u))) := Chg.wr g (fun z => z)
  refine ⟨p, vs, i, j, rfl, rfl, g, by rw [pr_len q]; exact e, k _ c ⟨p, _, rfl, rfl, upd_same, ?_⟩⟩
  exact pr_set (Ty.fz ru c) j (Paired.mapP q fun _ _ z => Ty.fz z c)
end cps
end G

namespace G
open PySem PySem.Spec PyProof.Rows L2
/-- the built-in names that the program leaves as they are -/
structure Bi (mg : Str → Option Value) : Prop where
  len : mg "len" = none
  range : mg "range" = none
  int : mg "int" = none
  bool : mg "bool" = none
  isinstance : mg "isinstance" = none
  max : mg "max" = none
  min : mg "min" = none
  list : mg "list" = none
  tuple : mg "tuple" = none
  sorted : mg "sorted" = none
  set : mg "set" = none
  enumerate : mg "enumerate" = none
  zip : mg "zip" = none
  reversed : mg "reversed" = none
  sum : mg "sum" = none
  any : mg "any" = none
  all : mg "all" = none
  str : mg "str" = none
/-- a def of the text stands under its name -/
structure Dfn (K : PySem.W.Frag) (mg : Str → Option Value) (x : Str) (st : Stmt) : Prop where
  ex : ∃ f fd, Fun K x x st f fd ∧ mg x = some (.ref f)
/-- a def may be called by its name and keeps its promise -/
structure Cal (P : Program) (w : World) (K : PySem.W.Frag) (mg : Str → Option Value) (x : Str) (ps : List Str) (k : Nat) (sp : Sp) : Prop where
  ex : ∃ f fd, mg x = some (.ref f) ∧ PySem.W.keepIn K (.ref f) = true ∧ (∀ (s : Shared) (us : List Value), us.length = ps.length → BindsTo s fd ⟨us, []⟩ (ps.zip us)) ∧ ∀ base : Heap, FnOk P w K mg base CX0 k f fd ps sp
theorem pe_cc {X : Cx} {x : Str} {ps : List Str} {j k : Nat} {sp : Sp} {p pos : Pos} {e : Expr} {es : List Expr} {t : TA} (C : Cal X.prog X.w X.K X.mg x ps j sp) (hr : Room k X.A) (ha : PA X (e :: es) t) (hj : j ≤ k := by decide) (hg : Gl X x := by rfl)
    (hd : (x == ("__debug__" : Str)) = false := by decide) (he : starEach (e :: es) X.env = (false, eval e X.env) :: starEach es X.env := by rfl)
    (hpl : (backTo pos (starEach es X.env)).any (·.1) = false := by rfl) :
    PE X (.Call (.Name x p) (e :: es) [] pos) (tCall sp [] E0 t) := by
  obtain ⟨f, fd, g, kp, b, F⟩ := C.ex
  exact pe_call (F X.base) (hr.mono hj) hg g kp (fun s us _ hl => by rw [List.append_nil] at hl ⊢; exact b s us hl) .nil pass0 ha hd he hpl
theorem bindsF {K : PySem.W.Frag} {x qual : Str} {st : Stmt} {f : Addr} {fd : FuncData} {ps : List Str} (F : Fun K x qual st f fd)
    (h : ∀ (kV doc pm : Value) (an : Option Addr) (cdv ct : Value) (us : List Value), us.length = ps.length → bindArgs (PySem.W.fnOf x qual (defArgs st) (defBody st) (defScope st) .none kV doc pm an cdv ct) ⟨us, []⟩ = pure (ps.zip us)) (s : Shared) (us : List Value) (hl : us.length = ps.length) : BindsTo s fd ⟨us, []⟩ (ps.zip us) := by
  obtain ⟨oc, od, kV, doc, pm, an, cdv, ct, osl, rfl, lk, hcd⟩ := F.ex
  exact .of_eq (h kV doc pm an cdv ct us hl)
end G

namespace G
open PySem PySem.Spec PyProof.Rows L2
section
variable {K : PySem.W.Frag} {σ σ' : L2.St} {H : Hp} {F : List Addr} {ta tb te : TE} {v u x y : V} {i j : Int} {t tu : TT} {b c a : Bool} {α β : Type} {τ : Ty α} {Q : VK} {D : Ends} {t1 t2 : TS}
theorem val_add (ha : Val ta σ H (.int i)) (hb : Val tb σ H (.int j)) : Val (tOp (rI0 fun i j => .int (i + j)) ta tb) σ H (.int (i + j)) := val_I0 ha hb
theorem val_sub (ha : Val ta σ H (.int i)) (hb : Val tb σ H (.int j)) : Val (tOp (rI0 fun i j => .int (i - j)) ta tb) σ H (.int (i - j)) := val_I0 ha hb
theorem val_lt (ha : Val ta σ H (.int i)) (hb : Val tb σ H (.int j)) : Val (tOp (rI0 fun i j => .bl (decide (i < j))) ta tb) σ H (.bl (decide (i < j))) := val_I0 (g := fun i j => .bl (decide (i < j))) ha hb
theorem val_le (ha : Val ta σ H (.int i)) (hb : Val tb σ H (.int j)) : Val (tOp (rI0 fun i j => .bl (decide (i ≤ j))) ta tb) σ H (.bl (decide (i ≤ j))) := val_I0 (g := fun i j => .bl (decide (i ≤ j))) ha hb
theorem val_gt (ha : Val ta σ H (.int i)) (hb : Val tb σ H (.int j)) : Val (tOp (rI0 fun i j => .bl (decide (j < i))) ta tb) σ H (.bl (decide (j < i))) := val_I0 (g := fun i j => .bl (decide (j < i))) ha hb
theorem val_ge (ha : Val ta σ H (.int i)) (hb : Val tb σ H (.int j)) : Val (tOp (rI0 fun i j => .bl (decide (j ≤ i))) ta tb) σ H (.bl (decide (j ≤ i))) := val_I0 (g := fun i j => .bl (decide (j ≤ i))) ha hb
theorem val_neg (ha : Val ta σ H (.int i)) : Val (tUn (rU fun i => .int (-i)) ta) σ H (.int (-i)) := val_U (g := fun i => .int (-i)) ha
theorem val_mulL (ha : Val ta σ H (.int i)) (hb : Val tb σ H (.int j)) (h : -(2 ^ 64) < i ∧ i < 2 ^ 64) : Val (tOp (rI CMul fun i j => .int (i * j)) ta tb) σ H (.int (i * j)) := val_I (g := fun i j => .int (i * j)) ha hb (.inl h)
theorem val_mulR (ha : Val ta σ H (.int i)) (hb : Val tb σ H (.int j)) (h : -(2 ^ 64) < j ∧ j < 2 ^ 64) : Val (tOp (rI CMul fun i j => .int (i * j)) ta tb) σ H (.int (i * j)) := val_I (g := fun i j => .int (i * j)) ha hb (.inr h)
theorem val_modc (ha : Val ta σ H (.int i)) (hb : Val tb σ H (.int j)) (h : 0 < j) : Val (tOp (rI (fun _ j => 0 < j) fun i j => .int (i % j)) ta tb) σ H (.int (i % j)) := val_I (g := fun i j => .int (i % j)) ha hb h
theorem val_divc (ha : Val ta σ H (.int i)) (hb : Val tb σ H (.int j)) (h : CDiv i j) : Val (tOp (rI CDiv fun i j => .int (i / j)) ta tb) σ H (.int (i / j)) := val_I (g := fun i j => .int (i / j)) ha hb h
theorem val_pow {n : Nat} (ha : Val ta σ H (.int i)) (hb : Val tb σ H (.int j)) (e : j = (n : Int)) (hn : n ≤ 1000000) (h : i.natAbs < 2 ^ 64) : Val (tOp (rI CPow fun i j => .int (i ^ j.toNat)) ta tb) σ H (.int (i ^ n)) := by
  subst e
  exact val_I (g := fun i j => .int (i ^ j.toNat)) ha hb ⟨by omega, by omega, h⟩
theorem val_shl {n : Nat} (ha : Val ta σ H (.int i)) (hb : Val tb σ H (.int j)) (h : CPow i j) : Val (tOp (rI CPow fun i j => .int (i * 2 ^ j.toNat)) ta tb) σ H (.int (i * 2 ^ j.toNat)) := val_I (g := fun i j => .int (i * 2 ^ j.toNat)) ha hb h
theorem val_shr (ha : Val ta σ H (.int i)) (hb : Val tb σ H (.int j)) (h : 0 ≤ j) : Val (tOp (rI (fun _ j => 0 ≤ j) fun i j => .int (i / 2 ^ j.toNat)) ta tb) σ H (.int (i / 2 ^ j.toNat)) := val_I (g := fun i j => .int (i / 2 ^ j.toNat)) ha hb h
theorem ans_B (h : Val te σ H (.bl b)) : Ans (tB te) σ H b := ans_val h
theorem ans_N (h : Ans t σ H b) : Ans (tNot t) σ H (!b) := ans_not h
theorem ans_andB (h1 : Ans t σ H a) (h2 : a = true → Ans tu σ H b) : Ans (tAnd t tu) σ H (a && b) := by
  cases a with
  | true => exact ans_and h1 (h2 rfl)
  | false => exact ans_and0 h1
theorem ans_orB (h1 : Ans t σ H a) (h2 : a = false → Ans tu σ H b) : Ans (tOr t tu) σ H (a || b) := by
  cases a with
  | true => exact ans_or1 h1
  | false => exact ans_or h1 (h2 rfl)
theorem ans_andO {m : Option Bool} (h1 : Ans t σ H a) (hc : (if a = true then m else some false) = some c) (h2 : m = some c → Ans tu σ H c) : Ans (tAnd t tu) σ H c := by
  cases a with
  | true => exact ans_and h1 (h2 hc)
  | false => cases hc; exact ans_and0 h1
theorem ans_orO {m : Option Bool} (h1 : Ans t σ H a) (hc : (if a = true then some true else m) = some c) (h2 : m = some c → Ans tu σ H c) : Ans (tOr t tu) σ H c := by
  cases a with
  | true => cases hc; exact ans_or1 h1
  | false => exact ans_or h1 (h2 hc)
theorem val_notV (h : Val ta σ H (.bl a)) : Val (tNotV ta) σ H (.bl (!a)) := fun Q q => h _ ⟨a, rfl, q⟩
theorem val_andV (h1 : Val ta σ H (.bl a)) (h2 : a = true → Val tb σ H (.bl b)) : Val (tAndV ta tb) σ H (.bl (a && b)) := fun Q q => h1 _ ⟨a, rfl, by
  cases a with
  | true => exact iteT (h2 rfl Q q)
  | false => exact iteF q⟩
theorem val_orV (h1 : Val ta σ H (.bl a)) (h2 : a = false → Val tb σ H (.bl b)) : Val (tOrV ta tb) σ H (.bl (a || b)) := fun Q q => h1 _ ⟨a, rfl, by
  cases a with
  | true => exact iteT q
  | false => exact iteF (h2 rfl Q q)⟩
theorem val_andVO {m : Option Bool} (h1 : Val ta σ H (.bl a)) (hc : (if a = true then m else some false) = some c) (h2 : m = some c → Val tb σ H (.bl c)) : Val (tAndV ta tb) σ H (.bl c) := fun Q q => h1 _ ⟨a, rfl, by
  cases a with
  | true => exact iteT (h2 hc Q q)
  | false => cases hc; exact iteF q⟩
theorem val_orVO {m : Option Bool} (h1 : Val ta σ H (.bl a)) (hc : (if a = true then some true else m) = some c) (h2 : m = some c → Val tb σ H (.bl c)) : Val (tOrV ta tb) σ H (.bl c) := fun Q q => h1 _ ⟨a, rfl, by
  cases a with
  | true => cases hc; exact iteT q
  | false => exact iteF (h2 hc Q q)⟩
/-! ### readings taken apart -/
theorem w_op {r : R2} (h : ta σ H fun x H1 => tb σ H1 fun y H2 => r x y H2 Q) : tOp r ta tb σ H Q := h
theorem w_un {r : V → Hp → VK → Prop} (h : ta σ H fun x H1 => r x H1 Q) : tUn r ta σ H Q := h
theorem w_cb {r : List V → Hp → VK → Prop} {ts : TA} (h : ts σ H fun vs H1 => r vs H1 Q) : tCB r ts σ H Q := h
theorem w_call {sp : Sp} {dvs : List V} {E : XK} {ts : TA} (h : ts σ H fun vs H1 => sp (vs ++ dvs) H1 Q E) : tCall sp dvs E ts σ H Q := h
theorem w_cons {tr : TA} {Q : List V → Hp → Prop} (h : ta σ H fun x H1 => tr σ H1 fun xs H2 => Q (x :: xs) H2) : tCons ta tr σ H Q := h
theorem w_nil {Q : List V → Hp → Prop} (h : Q [] H) : tNil σ H Q := h
theorem w_args {ts : TA} {vs : List V} {Q : List V → Hp → Prop} (h : VaA ts σ H vs) (k : Q vs H) : ts σ H Q := h Q k
def LstG (xs : List V) (H : Hp) (Q : VK) : Prop := xs.length ≤ sizeLine ∧ ∀ p, H p = none → Q (.ref p) (upd H p (.lst xs))
def TupG (xs : List V) (H : Hp) (Q : VK) : Prop := xs.length ≤ sizeLine ∧ ∀ p, H p = none → Q (.ref p) (upd H p (.tup xs))
theorem w_lst {ts : TA} (h : ts σ H fun xs H1 => LstG xs H1 Q) : L2.tLst ts σ H Q := h
theorem w_tup {ts : TA} (h : ts σ H fun xs H1 => TupG xs H1 Q) : L2.tTup ts σ H Q := h
theorem w_test {Q : Bool → Hp → Prop} (h : te σ H fun x H' => ∃ k, x = .bl k ∧ Q k H') : tTest te σ H Q := h
theorem w_B {Q : Bool → Hp → Prop} (h : te σ H fun x H' => ∃ k, x = .bl k ∧ Q k H') : tB te σ H Q := h
theorem w_bl {Q : Bool → Hp → Prop} (k : Q b H) : ∃ k, V.bl b = .bl k ∧ Q k H := ⟨b, rfl, k⟩
theorem w_not {Q : Bool → Hp → Prop} (h : t σ H fun c H1 => Q (!c) H1) : tNot t σ H Q := h
theorem w_and {Q : Bool → Hp → Prop} (h : t σ H fun c H1 => if c = true then tu σ H1 Q else Q false H1) : tAnd t tu σ H Q := h
theorem w_or {Q : Bool → Hp → Prop} (h : t σ H fun c H1 => if c = true then Q true H1 else tu σ H1 Q) : tOr t tu σ H Q := h
theorem w_andV (h : ta σ H fun x H1 => ∃ c, x = .bl c ∧ if c = true then tb σ H1 Q else Q (.bl false) H1) : tAndV ta tb σ H Q := h
theorem w_orV (h : ta σ H fun x H1 => ∃ c, x = .bl c ∧ if c = true then Q (.bl true) H1 else tb σ H1 Q) : tOrV ta tb σ H Q := h
theorem w_notV (h : ta σ H fun x H1 => ∃ c, x = .bl c ∧ Q (.bl (!c)) H1) : tNotV ta σ H Q := h
theorem w_blV {P : Bool → Prop} (k : P b) : ∃ k, V.bl b = .bl k ∧ P k := ⟨b, rfl, k⟩
theorem w_I0 {g : Int → Int → V} (k : Q (g i j) H) : rI0 g (.int i) (.int j) H Q := ⟨i, j, rfl, rfl, k⟩
theorem w_I {C : Int → Int → Prop} {g : Int → Int → V} (hc : C i j) (k : Q (g i j) H) : rI C g (.int i) (.int j) H Q := ⟨i, j, rfl, rfl, hc, k⟩
theorem w_U {g : Int → V} (k : Q (g i) H) : rU g (.int i) H Q := ⟨i, rfl, k⟩
theorem w_mul {r : Int} (h : Mi.mul i j = some r) (k : Q (.int r) H) : rI CMul (fun i j => .int (i * j)) (.int i) (.int j) H Q := ⟨i, j, rfl, rfl, (mulC h).1, by show Q (.int (i * j)) H; rw [(mulC h).2]; exact k⟩
theorem w_mod {r : Int} (h : Mi.mod i j = some r) (k : Q (.int r) H) : rI (fun _ j => 0 < j) (fun i j => .int (i % j)) (.int i) (.int j) H Q := ⟨i, j, rfl, rfl, (modC h).1, by show Q (.int (i % j)) H; rw [(modC h).2]; exact k⟩
theorem w_fdiv {r : Int} (h : Mi.fdiv i j = some r) (k : Q (.int r) H) : rI CDivW (fun i j => .int (i / j)) (.int i) (.int j) H Q := ⟨i, j, rfl, rfl, (divC h).1, by show Q (.int (i / j)) H; rw [(divC h).2]; exact k⟩
theorem w_eqI (k : Q (.bl (decide (i = j))) H) : rEq (.int i) (.int j) H Q := ⟨rfl, by rw [dI]; exact k⟩
theorem w_neI (k : Q (.bl (!decide (i = j))) H) : rNe (.int i) (.int j) H Q := ⟨rfl, by rw [dI]; exact k⟩
theorem w_eqB (k : Q (.bl (decide (b = c))) H) : rEq (.bl b) (.bl c) H Q := ⟨rfl, by rw [dB]; exact k⟩
theorem w_neB (k : Q (.bl (!decide (b = c))) H) : rNe (.bl b) (.bl c) H Q := ⟨rfl, by rw [dB]; exact k⟩
theorem w_int (k : Q (.int i) H) : rInt1 [.int i] H Q := .inl ⟨i, rfl, k⟩
theorem w_max2 (k : Q (.int (max i j)) H) : rMax2 [.int i, .int j] H Q := ⟨i, j, rfl, by
  have e : (if j > i then j else i) = max i j := by split <;> omega
  rw [e]; exact k⟩
theorem w_min2 (k : Q (.int (min i j)) H) : rMin2 [.int i, .int j] H Q := ⟨i, j, rfl, by
  have e : (if j < i then j else i) = min i j := by split <;> omega
  rw [e]; exact k⟩
theorem w_lenL {xs : List α} (r : (yLst τ).rep K H F v xs) (k : Q (.int (xs.length : Int)) H) : rLenQ K [v] H Q := by
  obtain ⟨a, vs, e, s, q⟩ := lst_sq r
  subst e
  exact ⟨a, vs, rfl, .inl s, by rw [pr_len q]; exact k⟩
theorem w_lenT {xs : List α} (r : (yTupL τ).rep K H F v xs) (k : Q (.int (xs.length : Int)) H) : rLenQ K [v] H Q := by
  obtain ⟨a, vs, e, s, q⟩ := tupl_sq r
  subst e
  exact ⟨a, vs, rfl, .inr s, by rw [pr_len q]; exact k⟩
theorem w_ixL {xs : List α} {x : α} (r : (yLst τ).rep K H F v xs) (h : Mi.at_ xs i = some x) (k : ∀ u, τ.rep K H [] u x → Q u H) : rIxL K v (.int i) H Q := by
  obtain ⟨a, vs, e, s, q⟩ := lst_sq r
  subst e
  obtain ⟨u, e, ru⟩ := pr_at q h
  exact ⟨a, vs, i, u, rfl, rfl, s, e, k u ru⟩
theorem w_ixT {xs : List α} {x : α} (r : (yTupL τ).rep K H F v xs) (h : Mi.at_ xs i = some x) (k : ∀ u, τ.rep K H [] u x → Q u H) : rIxT K v (.int i) H Q := by
  obtain ⟨a, vs, e, s, q⟩ := tupl_sq r
  subst e
  obtain ⟨u, e, ru⟩ := pr_at q h
  exact ⟨a, vs, i, u, rfl, rfl, s, e, k u ru⟩
theorem e_lst {vs : List V} {xs : List α} (z : vs.length ≤ Mi.big) (r : Paired (fun u x => τ.rep K H [] u x) vs xs) (k : ∀ p H', H p = none → Chg [] H H' → (yLst τ).rep K H' [p] (.ref p) xs → Q (.ref p) H') :
    LstG vs H Q := ⟨sz z, fun p np => k p _ np (Chg.new np)
      ⟨p, vs, rfl, rfl, upd_same, Paired.mapP r fun u x q => Ty.ex q (Chg.new np)⟩⟩
theorem e_tup {ty : Tys α} {vs : List V} {d : α} {F : List Addr} (z : vs.length ≤ Mi.big) (r : ty.rep K H F vs d) (k : ∀ p H', H p = none → Chg [] H H' → (yTup ty).rep K H' F (.ref p) d → Q (.ref p) H') :
    TupG vs H Q := ⟨sz z, fun p np => k p _ np (Chg.new np)
      ⟨p, vs, rfl, .inl (.inl upd_same), ty.keep r fun b o e _ => by rw [upd_ne (ne_of_none e np)]; exact e⟩⟩
/-! ### statements -/
theorem w_asg {g : TG} (h : te σ H fun x H1 => g x σ H1 D.nx) : tAsg te g D σ H := h
theorem w_drop (h : te σ H fun _ H1 => D.nx σ H1) : tDrop te D σ H := h
theorem w_ret (h : te σ H D.rt) : tRet te D σ H := h
theorem w_retN (h : D.rt .non H) : tRetN D σ H := h
theorem w_next (h : D.nx σ H) : tNext D σ H := h
theorem w_cont (h : D.ct σ H) : tCont D σ H := h
theorem w_break (h : D.bk σ H) : tBreak D σ H := h
theorem w_ifS (h : t σ H fun b H1 => if b = true then t1 D σ H1 else t2 D σ H1) : tIfS t t1 t2 D σ H := h
theorem w_ifE (h : t σ H fun c H1 => if c = true then ta σ H1 Q else tb σ H1 Q) : tIf t ta tb σ H Q := h
theorem w_gsub {to ti : TE} {ts : TSet} {Q : L2.St → Hp → Prop} (h : to σ H fun o H1 => ti σ H1 fun i H2 => ts o i v H2 fun H3 => Q σ H3) : gSub to ti ts v σ H Q := h
theorem w_bm {T : String} {r : V → List V → Hp → VK → Prop} {to : TE} {ts : TA} (h : to σ H fun x H1 => tyV K T x H1 ∧ ts σ H1 fun xs H2 => r x xs H2 Q) : tBM K T r to ts σ H Q := h
theorem w_bm0 {T : String} {r : V → List V → Hp → VK → Prop} {to : TE} (h : to σ H fun x H1 => tyV K T x H1 ∧ r x [] H1 Q) : tBM0 K T r to σ H Q := h
theorem tyv_lst {xs : List α} (r : (yLst τ).rep K H F v xs) : tyV K "list" v H := by
  obtain ⟨a, vs, rfl, s, q⟩ := lst_sq r
  exact .inl ⟨rfl, _, s⟩
/-- a join of tests -/
theorem j_tt {R : Hp → Prop} {Q : Bool → Hp → Prop} (c : Bool) (w : ∀ Q' : Bool → Hp → Prop, (∀ H', R H' → Q' c H') → t σ H Q') (k : ∀ H', R H' → Q c H') : t σ H Q := w Q k
theorem j_te {R : Hp → Prop} (x : V) (w : ∀ Q' : VK, (∀ H', R H' → Q' x H') → te σ H Q') (k : ∀ H', R H' → Q x H') : te σ H Q := w Q k
/-! ### statements with what follows -/
theorem q_asg {g : TG} (h : te σ H fun x H1 => g x σ H1 (t2 D)) : tSeq (tAsg te g) t2 D σ H := h
theorem q_setE {k : Nat} {w : V} (h : Val te σ H v) (ev : v = w) (e : σ.set k (some w) = σ') (q : t2 D σ' H) : tSeq (tAsg te (gName k)) t2 D σ H := by
  subst ev
  exact h _ (by show t2 D (σ.set k (some v)) H; rw [e]; exact q)
theorem q_drop (h : te σ H fun _ H1 => t2 D σ H1) : tSeq (tDrop te) t2 D σ H := h
theorem q_ret (h : te σ H D.rt) : tSeq (tRet te) t2 D σ H := h
theorem q_retN (h : D.rt .non H) : tSeq tRetN t2 D σ H := h
theorem q_pass (h : t2 D σ H) : tSeq tNext t2 D σ H := h
theorem q_cont (h : D.ct σ H) : tSeq tCont t2 D σ H := h
theorem q_brk (h : D.bk σ H) : tSeq tBreak t2 D σ H := h
theorem q_if {t3 : TS} (h : Ans t σ H b) (h1 : b = true → t1 { D with nx := t2 D } σ H) (h2 : b = false → t3 { D with nx := t2 D } σ H) : tSeq (tIfS t t1 t3) t2 D σ H := h _ (c_if h1 h2)
theorem q_ifS {t3 : TS} (h : t σ H fun b H1 => if b = true then t1 { D with nx := t2 D } σ H1 else t3 { D with nx := t2 D } σ H1) : tSeq (tIfS t t1 t3) t2 D σ H := h
theorem w_fall (h : t2 D σ H) : tNext { D with nx := t2 D } σ H := h
theorem w_nextJ {nx bk ct : L2.St → Hp → Prop} {rt : VK} (h : nx σ H) : tNext (Ends.mk nx rt bk ct) σ H := h
theorem q_aug {k : Nat} {f : Int → Int → Int} {m n p : Int} (hx : σ[k]? = some (some (.int m))) (h : Val te σ H (.int n)) (en : f m n = p) (e : σ.set k (some (.int p)) = σ') (q : t2 D σ' H) : tSeq (tAug k te (ipI f)) t2 D σ H :=
  ⟨_, hx, h _ ⟨m, n, rfl, rfl, by rw [en]; show t2 D (List.set σ k (some (.int p))) H; rw [e]; exact q⟩⟩
/-! ### loops -/
def LoopG (J : It) (g : TG) (tb : TS) (D : Ends) (nx : L2.St → Hp → Prop) (σ : L2.St) (H : Hp) : Prop := ∃ W : Nat → Nat → L2.St → Hp → Prop, (∃ m, W 0 m σ H) ∧ ∀ i m σ H, W i m σ H →
  (J.stop i H ∧ nx σ H) ∨ (J.go i H ∧ ∃ N : L2.St → Hp → Prop, (∀ σ' H', N σ' H' → ∃ m', m' < m ∧ W (i + 1) m' σ' H') ∧ ∀ x H', J.yld i H x H' → g x σ H' fun σ2 H2 => tb { D with nx := N, ct := N, bk := nx } σ2 H2)
theorem q_for {wi : TI} {g : TG} {tb : TS} (h : wi σ H fun J H1 => LoopG J g tb D (t2 D) σ H1) : tSeq (tFor wi g tb) t2 D σ H := h
theorem w_iList {tl : TE} {R : It → Hp → Prop} (h : tl σ H fun x H1 => ∃ a, x = .ref a ∧ (∃ xs, SqL K H1 a xs) ∧ R (Itl K a) H1) : iList K tl σ H R := h
theorem w_iTup {tl : TE} {R : It → Hp → Prop} (h : tl σ H fun x H1 => ∃ a, x = .ref a ∧ (∃ xs, SqT K H1 a xs) ∧ R (Itt K a) H1) : iTup K tl σ H R := h
theorem w_iRng1 {ts : TA} {R : It → Hp → Prop} (h : ts σ H fun vs H1 => ∃ j : Int, vs = [.int j] ∧ -(2 ^ 62) ≤ j ∧ j < 2 ^ 62 ∧ R (Itr 0 j.toNat) H1) : iRng1 ts σ H R := h
theorem w_iRng2 {ts : TA} {R : It → Hp → Prop} (h : ts σ H fun vs H1 => ∃ i j : Int, vs = [.int i, .int j] ∧ (-(2 ^ 62) ≤ i ∧ i < 2 ^ 62 ∧ -(2 ^ 62) ≤ j ∧ j < 2 ^ 62) ∧ R (Itr i (j - i).toNat) H1) : iRng2 ts σ H R := h
theorem rngO_some {lo hi : Int} {g : List Int} (h : Mi.rngO lo hi = some g) : g = Mi.rng lo hi ∧ (-(2 ^ 60) ≤ lo ∧ lo < 2 ^ 60) ∧ (-(2 ^ 60) ≤ hi ∧ hi < 2 ^ 60) := by
  unfold Mi.rngO at h
  split at h
  · rename_i c
    exact ⟨(Option.some.inj h).symm, c⟩
  · cases h
theorem rng_len (lo hi : Int) : (Mi.rng lo hi).length = (hi - lo).toNat := by unfold Mi.rng; rw [List.length_map, List.length_range]
theorem rng_at {lo hi : Int} {i : Nat} (h : i < (hi - lo).toNat) : (Mi.rng lo hi)[i]? = some (lo + i) := by
  unfold Mi.rng
  rw [List.getElem?_map, List.getElem?_range h]
  rfl
theorem l_rng {g : TG} {tb : TS} {nx : L2.St → Hp → Prop} {lo hi : Int} (Pv : Nat → L2.St → Hp → Prop) (h0 : Pv 0 σ H)
    (hs : ∀ (i : Nat) (x : Int) σ' H', (Mi.rng lo hi)[i]? = some x → Pv i σ' H' → g (.int x) σ' H' fun σ2 H2 => tb { D with nx := Pv (i + 1), ct := Pv (i + 1), bk := nx } σ2 H2) (hd : ∀ σ' H', Pv (Mi.rng lo hi).length σ' H' → nx σ' H') :
    LoopG (Itr lo (hi - lo).toNat) g tb D nx σ H := for_range (D := { D with nx := nx }) (lo := lo) (n := (hi - lo).toNat) Pv h0 (fun i σ' H' hi' p => hs i _ σ' H' (rng_at hi') p) (fun σ' H' p => hd σ' H' (by rw [rng_len]; exact p))
theorem l_rng1 {g : TG} {tb : TS} {nx : L2.St → Hp → Prop} {hi : Int} {xs : List Int} (hg : Mi.rngO 0 hi = some xs) (Pv : Nat → L2.St → Hp → Prop) (h0 : Pv 0 σ H)
    (hs : ∀ (i : Nat) (x : Int) σ' H', xs[i]? = some x → Pv i σ' H' → g (.int x) σ' H' fun σ2 H2 => tb { D with nx := Pv (i + 1), ct := Pv (i + 1), bk := nx } σ2 H2) (hd : ∀ σ' H', Pv xs.length σ' H' → nx σ' H') :
    ∃ j : Int, [V.int hi] = [.int j] ∧ -(2 ^ 62) ≤ j ∧ j < 2 ^ 62 ∧ LoopG (Itr 0 j.toNat) g tb D nx σ H := by
  obtain ⟨rfl, _, h1, h2⟩ := rngO_some hg
  refine ⟨hi, rfl, by omega, by omega, ?_⟩
  have e : hi.toNat = (hi - 0).toNat := by rw [Int.sub_zero]
  rw [e]
  exact l_rng Pv h0 hs hd
theorem l_rng2 {g : TG} {tb : TS} {nx : L2.St → Hp → Prop} {lo hi : Int} {xs : List Int} (hg : Mi.rngO lo hi = some xs) (Pv : Nat → L2.St → Hp → Prop) (h0 : Pv 0 σ H)
    (hs : ∀ (i : Nat) (x : Int) σ' H', xs[i]? = some x → Pv i σ' H' → g (.int x) σ' H' fun σ2 H2 => tb { D with nx := Pv (i + 1), ct := Pv (i + 1), bk := nx } σ2 H2) (hd : ∀ σ' H', Pv xs.length σ' H' → nx σ' H') :
    ∃ i j : Int, [V.int lo, V.int hi] = [.int i, .int j] ∧ (-(2 ^ 62) ≤ i ∧ i < 2 ^ 62 ∧ -(2 ^ 62) ≤ j ∧ j < 2 ^ 62) ∧ LoopG (Itr i (j - i).toNat) g tb D nx σ H := by
  obtain ⟨rfl, h1, h2⟩ := rngO_some hg
  exact ⟨lo, hi, rfl, by omega, l_rng Pv h0 hs hd⟩
theorem l_lst {g : TG} {tb : TS} {nx : L2.St → Hp → Prop} {xs : List α} (r : (yLst τ).rep K H F v xs) (Pv : Nat → L2.St → Hp → Prop) (h0 : Pv 0 σ H) (hl : ∀ i σ' H', Pv i σ' H' → (yLst τ).rep K H' F v xs)
    (hs : ∀ (i : Nat) (x : α) (u : V) σ' H', xs[i]? = some x → τ.rep K H' [] u x → Pv i σ' H' → g u σ' H' fun σ2 H2 => tb { D with nx := Pv (i + 1), ct := Pv (i + 1), bk := nx } σ2 H2) (hd : ∀ σ' H', Pv xs.length σ' H' → nx σ' H') :
    ∃ a, v = .ref a ∧ (∃ xs, SqL K H a xs) ∧ LoopG (Itl K a) g tb D nx σ H := by
  obtain ⟨a, vs, e, s, q⟩ := lst_sq r
  refine ⟨a, e, ⟨vs, s⟩, fun i m σ' H' => m = xs.length - i ∧ i ≤ xs.length ∧ Pv i σ' H', ⟨xs.length, by omega, Nat.zero_le _, h0⟩, ?_⟩
  rintro i m σ' H' ⟨rfl, hi, p⟩
  obtain ⟨a', vs', e', s', q'⟩ := lst_sq (hl i σ' H' p)
  obtain rfl : a = a' := by rw [e] at e'; exact V.ref.inj e'
  by_cases hlt : i < xs.length
  · obtain ⟨u, hu, ru⟩ := pr_get q' (List.getElem?_eq_getElem hlt)
    refine .inr ⟨⟨vs', u, s', hu⟩, Pv (i + 1), fun σ2 H2 p' => ⟨xs.length - (i + 1), by omega, rfl, hlt, p'⟩, fun x H2 y => ?_⟩
    obtain ⟨rfl, y⟩ := y
    obtain rfl : x = u := Option.some.inj ((y _ s').symm.trans hu)
    exact hs i _ _ σ' _ (List.getElem?_eq_getElem hlt) ru p
  · obtain rfl : i = xs.length := by omega
    exact .inl ⟨⟨vs', s', by rw [pr_len q']; exact Nat.le_refl _⟩, hd σ' H' p⟩
theorem l_tup {g : TG} {tb : TS} {nx : L2.St → Hp → Prop} {xs : List α} (r : (yTupL τ).rep K H F v xs) (Pv : Nat → L2.St → Hp → Prop) (h0 : Pv 0 σ H) (hl : ∀ i σ' H', Pv i σ' H' → (yTupL τ).rep K H' F v xs)
    (hs : ∀ (i : Nat) (x : α) (u : V) σ' H', xs[i]? = some x → τ.rep K H' [] u x → Pv i σ' H' → g u σ' H' fun σ2 H2 => tb { D with nx := Pv (i + 1), ct := Pv (i + 1), bk := nx } σ2 H2) (hd : ∀ σ' H', Pv xs.length σ' H' → nx σ' H') :
    ∃ a, v = .ref a ∧ (∃ xs, SqT K H a xs) ∧ LoopG (Itt K a) g tb D nx σ H := by
  obtain ⟨a, vs, e, s, q⟩ := tupl_sq r
  refine ⟨a, e, ⟨vs, s⟩, fun i m σ' H' => m = xs.length - i ∧ i ≤ xs.length ∧ Pv i σ' H', ⟨xs.length, by omega, Nat.zero_le _, h0⟩, ?_⟩
  rintro i m σ' H' ⟨rfl, hi, p⟩
  obtain ⟨a', vs', e', s', q'⟩ := tupl_sq (hl i σ' H' p)
  obtain rfl : a = a' := by rw [e] at e'; exact V.ref.inj e'
  by_cases hlt : i < xs.length
  · obtain ⟨u, hu, ru⟩ := pr_get q' (List.getElem?_eq_getElem hlt)
    refine .inr ⟨⟨vs', u, s', hu⟩, Pv (i + 1), fun σ2 H2 p' => ⟨xs.length - (i + 1), by omega, rfl, hlt, p'⟩, fun x H2 y => ?_⟩
    obtain ⟨rfl, y⟩ := y
    obtain rfl : x = u := Option.some.inj ((y _ s').symm.trans hu)
    exact hs i _ _ σ' _ (List.getElem?_eq_getElem hlt) ru p
  · obtain rfl : i = xs.length := by omega
    exact .inl ⟨⟨vs', s', by rw [pr_len q']; exact Nat.le_refl _⟩, hd σ' H' p⟩
end
/-! ### the items of tuples -/
/-- the n-th item has the kind τ and the data p d -/
def At {α β : Type} (ts : Tys α) (n : Nat) (τ : Ty β) (p : α → β) : Prop := ∀ {K : PySem.W.Frag} {H : Hp} {F : List Addr} {vs : List V} {d : α}, ts.rep K H F vs d → ∃ u F1, vs[n]? = some u ∧ τ.rep K H F1 u (p d) ∧ ∀ a ∈ F1, a ∈ F
theorem at1 {α : Type} {τ : Ty α} : At (sOne τ) 0 τ id := fun h => by
  obtain ⟨v, rfl, r⟩ := h
  exact ⟨v, _, rfl, r, fun _ h => h⟩
theorem at0 {α β : Type} {τ : Ty α} {ts : Tys β} : At (sCons τ ts) 0 τ (fun d => d.1) := fun h => by
  obtain ⟨v, ws, F1, F2, rfl, rfl, r, q⟩ := h
  exact ⟨v, F1, rfl, r, fun _ h => List.mem_append_left _ h⟩
theorem atS {α β γ : Type} {τ : Ty α} {ts : Tys β} {n : Nat} {υ : Ty γ} {p : β → γ} (A : At ts n υ p) : At (sCons τ ts) (n + 1) υ (fun d => p d.2) := fun h => by
  obtain ⟨v, ws, F1, F2, rfl, rfl, r, q⟩ := h
  obtain ⟨u, F3, e, ru, sub⟩ := A q
  exact ⟨u, F3, e, ru, fun _ h => List.mem_append_right _ (sub _ h)⟩
theorem Dj.sub {F G F1 : List Addr} (d : Dj F G) (s : ∀ a ∈ F1, a ∈ F) : Dj F1 G := fun a h => d a (s a h)
theorem itm_tup {α β : Type} {ts : Tys α} {n : Nat} {τ : Ty β} {p : α → β} {K : PySem.W.Frag} {H : Hp} {F : List Addr} {v : V} {d : α} (A : At ts n τ p) (r : (yTup ts).rep K H F v d) :
    ∃ u F1, τ.rep K H F1 u (p d) ∧ (∀ a ∈ F1, a ∈ F) ∧ (∀ {Q : VK}, Q u H → rIxT K v (.int (n : Int)) H Q) ∧ ∀ {σ : L2.St} {ta tb : TE}, Val ta σ H v → Val tb σ H (.int (n : Int)) → Val (tOp (rIxT K) ta tb) σ H u := by
  obtain ⟨a, vs, rfl, s, q⟩ := r
  obtain ⟨u, F1, e, ru, sub⟩ := A q
  have k : ∀ {Q : VK}, Q u H → rIxT K (.ref a) (.int (n : Int)) H Q := fun k => ⟨a, vs, n, u, rfl, rfl, s, atI_nat e, k⟩
  exact ⟨u, F1, ru, sub, k, fun ha hb => val_op ha hb fun Q q => k q⟩
end G

namespace G
open PySem PySem.Spec PyProof.Rows L2
section
variable {K : PySem.W.Frag} {σ σ' : L2.St} {H : Hp} {F G F1 F2 : List Addr} {ta tb te : TE} {v u x y w : V} {i j : Int} {t tu : TT} {b c a : Bool} {α β : Type} {τ : Ty α} {Q : VK} {D : Ends} {t1 t2 : TS}
theorem s_setE {k : Nat} (h : Val te σ H v) (ev : v = w) (e : σ.set k (some w) = σ') (q : D.nx σ' H) : tAsg te (gName k) D σ H := s_set (ev ▸ h) e q
theorem g_nameE {k : Nat} {Q : L2.St → Hp → Prop} (ev : v = w) (e : σ.set k (some w) = σ') (q : Q σ' H) : gName k v σ H Q := g_name (by rw [ev]; exact e) q
theorem s_aug {k : Nat} {f : Int → Int → Int} {m n p : Int} (hx : σ[k]? = some (some (.int m))) (h : Val te σ H (.int n)) (en : f m n = p) (e : σ.set k (some (.int p)) = σ') (q : D.nx σ' H) : tAug k te (ipI f) D σ H :=
  ⟨_, hx, h _ ⟨m, n, rfl, rfl, by rw [en]; show D.nx (List.set σ k (some (.int p))) H; rw [e]; exact q⟩⟩
/-! ### None or data -/
theorem nn_int : V.int i ≠ .non := fun z => nomatch z
theorem nn_bl : V.bl b ≠ .non := fun z => nomatch z
theorem nn_str {s : Str} : V.str s ≠ .non := fun z => nomatch z
theorem nn_lst {xs : List α} (r : (yLst τ).rep K H F v xs) : v ≠ .non := by obtain ⟨a, vs, rfl, _⟩ := r; exact fun z => nomatch z
theorem nn_tupl {xs : List α} (r : (yTupL τ).rep K H F v xs) : v ≠ .non := by obtain ⟨a, vs, rfl, _⟩ := r; exact fun z => nomatch z
theorem nn_tup {ts : Tys α} {d : α} (r : (yTup ts).rep K H F v d) : v ≠ .non := by obtain ⟨a, vs, rfl, _⟩ := r; exact fun z => nomatch z
theorem opt_some {d : Option α} {x : α} (r : (yOpt τ).rep K H F v d) (h : d = some x) : τ.rep K H F v x := by subst h; exact r.2
theorem opt_int {d : Option Int} {x : Int} (r : (yOpt yInt).rep K H F v d) (h : d = some x) : F = [] ∧ v = .int x := opt_some r h
theorem opt_bool {d : Option Bool} {x : Bool} (r : (yOpt yBool).rep K H F v d) (h : d = some x) : F = [] ∧ v = .bl x := opt_some r h
theorem opt_str {d : Option Str} {x : Str} (r : (yOpt yStr).rep K H F v d) (h : d = some x) : F = [] ∧ v = .str x := opt_some r h
theorem opt_dec {d : Option α} (r : (yOpt τ).rep K H F v d) : decide (v = .non) = d.isNone := by
  cases d with
  | none => obtain ⟨_, rfl⟩ := r; rfl
  | some x => exact decide_eq_false r.1
theorem opt_decN {d : Option α} (r : (yOpt τ).rep K H F v d) : (!decide (v = .non)) = d.isSome := by
  rw [opt_dec r]; cases d <;> rfl
theorem val_isN {d : Option α} (r : (yOpt τ).rep K H F v d) (ha : Val ta σ H v) : Val (tOp rIsN ta (tC .non)) σ H (.bl d.isNone) := val_op ha val_c fun Q q => ⟨rfl, by rw [opt_dec r]; exact q⟩
theorem val_notN {d : Option α} (r : (yOpt τ).rep K H F v d) (ha : Val ta σ H v) : Val (tOp rNotN ta (tC .non)) σ H (.bl d.isSome) := val_op ha val_c fun Q q => ⟨rfl, by rw [opt_decN r]; exact q⟩
theorem w_isN {d : Option α} (r : (yOpt τ).rep K H F v d) (k : Q (.bl d.isNone) H) : rIsN v .non H Q := ⟨rfl, by rw [opt_dec r]; exact k⟩
theorem w_notN {d : Option α} (r : (yOpt τ).rep K H F v d) (k : Q (.bl d.isSome) H) : rNotN v .non H Q := ⟨rfl, by rw [opt_decN r]; exact k⟩
/-! ### footprints -/
theorem Dj.app (d1 : Dj F1 G) (d2 : Dj F2 G) : Dj (F1 ++ F2) G := fun a h => (List.mem_append.mp h).elim (d1 a) (d2 a)
theorem app_fresh {H0 : Hp} (n1 : ∀ a ∈ F1, H0 a = none) (n2 : ∀ a ∈ F2, H0 a = none) : ∀ a ∈ F1 ++ F2, H0 a = none := fun a h => (List.mem_append.mp h).elim (n1 a) (n2 a)
theorem nil_fresh {H0 : Hp} : ∀ a ∈ ([] : List Addr), H0 a = none := fun a h => nomatch h
def Fz {α : Type} (τ : Ty α) : Prop := ∀ {K : PySem.W.Frag} {H : Hp} {F : List Addr} {v : V} {d : α}, τ.rep K H F v d → F = []
def Fzs {α : Type} (τ : Tys α) : Prop := ∀ {K : PySem.W.Frag} {H : Hp} {F : List Addr} {v : List V} {d : α}, τ.rep K H F v d → F = []
theorem fz_int : Fz yInt := fun h => h.1
theorem fz_bool : Fz yBool := fun h => h.1
theorem fz_str : Fz yStr := fun h => h.1
theorem fz_none : Fz yNon := fun h => h.1
theorem fz_scr : Fz yScr := fun h => h.1
theorem fz_tupl {τ : Ty α} : Fz (yTupL τ) := fun h => by obtain ⟨_, _, _, e, _⟩ := h; exact e
theorem fz_opt {τ : Ty α} (z : Fz τ) : Fz (yOpt τ) := fun {K H F v d} h => by
  cases d with
  | none => exact h.1
  | some x => exact z h.2
theorem fzs_one {τ : Ty α} (z : Fz τ) : Fzs (sOne τ) := fun h => by obtain ⟨_, _, r⟩ := h; exact z r
theorem fzs_cons {τ : Ty α} {ts : Tys β} (z : Fz τ) (zs : Fzs ts) : Fzs (sCons τ ts) := fun h => by
  obtain ⟨_, _, F1, F2, _, e, r, q⟩ := h
  rw [e, z r, zs q]; rfl
theorem fz_tup {ts : Tys α} (z : Fzs ts) : Fz (yTup ts) := fun h => by obtain ⟨_, _, _, _, r⟩ := h; exact z r
def LenS {α : Type} (ts : Tys α) (n : Nat) : Prop := ∀ {K : PySem.W.Frag} {H : Hp} {F : List Addr} {vs : List V} {d : α}, ts.rep K H F vs d → vs.length = n
theorem lens_one {τ : Ty α} : LenS (sOne τ) 1 := fun h => by obtain ⟨_, e, _⟩ := h; rw [e]; rfl
theorem lens_cons {τ : Ty α} {ts : Tys β} {n : Nat} (z : LenS ts n) : LenS (sCons τ ts) (n + 1) := fun h => by
  obtain ⟨_, _, _, _, e, _, _, q⟩ := h
  rw [e, List.length_cons, z q]
theorem val_lenU {ts : Tys α} {d : α} {n : Nat} (l : LenS ts n) (r : (yTup ts).rep K H F v d) (ha : Val ta σ H v) : Val (tCB (rLenQ K) (tCons ta tNil)) σ H (.int (n : Int)) := by
  obtain ⟨p, vs, rfl, s, q⟩ := r
  exact fun Q k => ha _ ⟨p, vs, rfl, .inr s, by rw [l q]; exact k⟩
/-! ### unpacking -/
theorem g_names {Q : L2.St → Hp → Prop} {σ1 : L2.St} (e : σ1 = σ') (k : Q σ' H) : Q σ1 H := e ▸ k
theorem g_tup2 {β : Type} {τ1 : Ty α} {τ2 : Ty β} {d : α × β} {i1 i2 : Nat} {Q : L2.St → Hp → Prop} (r : (yTup (sCons τ1 (sOne τ2))).rep K H [] v d)
    (k : ∀ u1 u2, τ1.rep K H [] u1 d.1 → τ2.rep K H [] u2 d.2 → Q ((σ.set i1 (some u1)).set i2 (some u2)) H) : gTup K 2 (gCons (gName i1) (gCons (gName i2) gNil)) v σ H Q := by
  obtain ⟨a, vs, rfl, s, v1, ws, F1, F2, rfl, e, r1, v2, rfl, r2⟩ := r
  obtain ⟨rfl, rfl⟩ : F1 = [] ∧ F2 = [] := List.append_eq_nil_iff.mp e.symm
  exact ⟨a, _, rfl, s, rfl, v1, _, rfl, v2, _, rfl, rfl, k v1 v2 r1 r2⟩
theorem g_tup3 {β γ : Type} {τ1 : Ty α} {τ2 : Ty β} {τ3 : Ty γ} {d : α × β × γ} {i1 i2 i3 : Nat} {Q : L2.St → Hp → Prop} (r : (yTup (sCons τ1 (sCons τ2 (sOne τ3)))).rep K H [] v d)
    (k : ∀ u1 u2 u3, τ1.rep K H [] u1 d.1 → τ2.rep K H [] u2 d.2.1 → τ3.rep K H [] u3 d.2.2 → Q (((σ.set i1 (some u1)).set i2 (some u2)).set i3 (some u3)) H) : gTup K 3 (gCons (gName i1) (gCons (gName i2) (gCons (gName i3) gNil))) v σ H Q := by
  obtain ⟨a, vs, rfl, s, v1, ws, F1, F2, rfl, e, r1, v2, ws2, F3, F4, rfl, e2, r2, v3, rfl, r3⟩ := r
  obtain ⟨rfl, rfl⟩ : F1 = [] ∧ F2 = [] := List.append_eq_nil_iff.mp e.symm
  obtain ⟨rfl, rfl⟩ : F3 = [] ∧ F4 = [] := List.append_eq_nil_iff.mp e2.symm
  exact ⟨a, _, rfl, s, rfl, v1, _, rfl, v2, _, rfl, v3, _, rfl, rfl, k v1 v2 v3 r1 r2 r3⟩
theorem g_tup4 {β γ δ : Type} {τ1 : Ty α} {τ2 : Ty β} {τ3 : Ty γ} {τ4 : Ty δ} {d : α × β × γ × δ} {i1 i2 i3 i4 : Nat} {Q : L2.St → Hp → Prop} (r : (yTup (sCons τ1 (sCons τ2 (sCons τ3 (sOne τ4))))).rep K H [] v d)
    (k : ∀ u1 u2 u3 u4, τ1.rep K H [] u1 d.1 → τ2.rep K H [] u2 d.2.1 → τ3.rep K H [] u3 d.2.2.1 → τ4.rep K H [] u4 d.2.2.2 → Q ((((σ.set i1 (some u1)).set i2 (some u2)).set i3 (some u3)).set i4 (some u4)) H) : gTup K 4 (gCons (gName i1) (gCons (gName i2) (gCons (gName i3) (gCons (gName i4) gNil)))) v σ H Q := by
  obtain ⟨a, vs, rfl, s, v1, ws, F1, F2, rfl, e, r1, v2, ws2, F3, F4, rfl, e2, r2, v3, ws3, F5, F6, rfl, e3, r3, v4, rfl, r4⟩ := r
  obtain ⟨rfl, rfl⟩ : F1 = [] ∧ F2 = [] := List.append_eq_nil_iff.mp e.symm
  obtain ⟨rfl, rfl⟩ : F3 = [] ∧ F4 = [] := List.append_eq_nil_iff.mp e2.symm
  obtain ⟨rfl, rfl⟩ : F5 = [] ∧ F6 = [] := List.append_eq_nil_iff.mp e3.symm
  exact ⟨a, _, rfl, s, rfl, v1, _, rfl, v2, _, rfl, v3, _, rfl, v4, _, rfl, rfl, k v1 v2 v3 v4 r1 r2 r3 r4⟩
/-! ### range(lo, hi, -1) -/
theorem w_iRng3 {ts : TA} {R : It → Hp → Prop} (h : ts σ H fun vs H1 => ∃ (i j c : Int) (n : Nat), vs = [.int i, .int j, .int c] ∧ RgC i j c n ∧ R (Itc i c n) H1) : iRng3 ts σ H R := h
theorem l_rngD {g : TG} {tb : TS} {nx : L2.St → Hp → Prop} {lo hi : Int} {xs : List Int} (hg : Mi.rngDownO lo hi = some xs) (Pv : Nat → L2.St → Hp → Prop) (h0 : Pv 0 σ H)
    (hs : ∀ (i : Nat) (x : Int) σ' H', xs[i]? = some x → Pv i σ' H' → g (.int x) σ' H' fun σ2 H2 => tb { D with nx := Pv (i + 1), ct := Pv (i + 1), bk := nx } σ2 H2) (hd : ∀ σ' H', Pv xs.length σ' H' → nx σ' H') :
    ∃ (i j c : Int) (n : Nat), [V.int lo, V.int hi, V.int (-1)] = [.int i, .int j, .int c] ∧ RgC i j c n ∧ LoopG (Itc i c n) g tb D nx σ H := by
  unfold Mi.rngDownO at hg
  split at hg
  · rename_i hc
    obtain rfl := Option.some.inj hg
    have hl : (Mi.rngDown lo hi).length = (lo - hi).toNat := by unfold Mi.rngDown; rw [List.length_map, List.length_range]
    refine ⟨lo, hi, -1, (lo - hi).toNat, rfl, RgC.neg (by omega) (by omega) (by omega) (by omega), ?_⟩
    refine for_rangeC (D := { D with nx := nx }) (lo := lo) (c := -1) (n := (lo - hi).toNat) Pv h0 (fun i σ' H' hi' p => hs i _ σ' H' ?_ p) (fun σ' H' p => hd σ' H' (by rw [hl]; exact p))
    unfold Mi.rngDown
    rw [List.getElem?_map, List.getElem?_range hi']
    show some (lo - (i : Int)) = some (lo + (i : Int) * -1)
    congr 1
    omega
  · cases hg
end
end G
namespace G
open PySem PySem.Spec PyProof.Rows L2
/-- the def at one address is one def -/
theorem fn_law {P : Program} {w : World} {K : PySem.W.Frag} {mg : Str → Option Value} {x : Str} {k : Nat} {sp : Sp} {fa : Addr} (hfa : mg x = some (.ref fa)) {p : Str} (c : Cal P w K mg x [p] k sp) :
    ∃ fd : FuncData, (∀ (s : Shared) (v : Value), BindsTo s fd ⟨[v], []⟩ [(p, v)]) ∧ ∀ base : Heap, K.In base → base.Ns mainGlobals mg → FnOk P w K mg base CX0 k fa fd [p] sp := by
  obtain ⟨f, fd, g, _, b, ok⟩ := c.ex
  obtain rfl : fa = f := Value.ref.inj (Option.some.inj (hfa.symm.trans g))
  exact ⟨fd, fun s v => b s [v] rfl, fun base _ _ => ok base⟩
end G

namespace G
open PySem PySem.Spec PyProof.Rows L2
def topS (i : Nat) : Stmt := PySem.Challenge.pw_fogfleet_k37_hours_of_a_leg.main.body.getD i (.Pass ⟨0, 0, 0, 0⟩)
section
variable {P : Program} {w : World} {K : PySem.W.Frag} {mg : Str → Option Value}
abbrev s_round_up : Stmt := topS 1
theorem sc_round_up : FnScope ["number", "divisor"] ["number", "divisor"] (defScope s_round_up) := ⟨rfl, rfl, rfl, by decide +kernel, rfl, by decide +kernel, by decide +kernel⟩
def sp_round_up (K : PySem.W.Frag) : Sp := fun vs H Q _ => ∃ (d0 : Int) (d1 : Int) (r : Int), vs = [(.int d0), (.int d1)] ∧ Mi.m_round_up d0 d1 = some r ∧ ∀ H', Chg ([]) H H' → Q (.int r) H'
theorem ok_round_up (B : Bi mg) (D : Dfn K mg "round_up" s_round_up)  : Cal P w K mg "round_up" ["number", "divisor"] 1 (sp_round_up K) := by
  obtain ⟨f, fd, F, g⟩ := D.ex
  refine ⟨f, fd, g, F.kp, bindsF F (fun _ _ _ _ _ _ us hl => match us, hl with | [_, _], _ => rfl), fun base => F.ok sc_round_up (fun vs H Q E h => ?_) (fun cdv A outer s H0 vs Q E hr h => ?_)⟩
  · obtain ⟨d0, d1, r, rfl, hm, hQ⟩ := h; rfl
  ·
    obtain ⟨d0, d1, r, rfl, hm, hQ⟩ := h
    refine ⟨_, pss_cons (ps_ret (pe_op op_fdivW (pe_op op_sub (pe_op op_add (pv 0) (pv 1)) pe_int) (pv 1))) pss_nil, ?_⟩
    have c0 : Chg ([] : List Addr) H0 H0 := Chg.refl H0
    unfold Mi.m_round_up at hm
    refine q_ret ?_
    obtain ⟨x1, hx1, hm⟩ := Mi.bnd hm
    refine c_val (val_fdiv (val_sub (val_add (val_var rfl) (val_var rfl)) val_c) (val_var rfl) hx1) ?_
    obtain rfl := Option.some.inj hm
    exact hQ _ c0 
abbrev s_leg_hours : Stmt := topS 3
theorem sc_leg_hours : FnScope ["length", "slow", "fast"] ["length", "slow", "fast"] (defScope s_leg_hours) := ⟨rfl, rfl, rfl, by decide +kernel, rfl, by decide +kernel, by decide +kernel⟩
def sp_leg_hours (K : PySem.W.Frag) : Sp := fun vs H Q _ => ∃ (d0 : Int) (d1 : Int) (d2 : Int) (r : (Int × Int)), vs = [(.int d0), (.int d1), (.int d2)] ∧ Mi.m_leg_hours d0 d1 d2 = some r ∧ ∀ v H', Chg ([]) H H' → (yTup (sCons yInt (sOne yInt))).rep K H' [] v r → Q v H'
theorem ok_leg_hours (B : Bi mg) (D : Dfn K mg "leg_hours" s_leg_hours) (C_round_up : Cal P w K mg "round_up" ["number", "divisor"] 1 (sp_round_up K)) : Cal P w K mg "leg_hours" ["length", "slow", "fast"] 2 (sp_leg_hours K) := by
  obtain ⟨f, fd, F, g⟩ := D.ex
  refine ⟨f, fd, g, F.kp, bindsF F (fun _ _ _ _ _ _ us hl => match us, hl with | [_, _, _], _ => rfl), fun base => F.ok sc_leg_hours (fun vs H Q E h => ?_) (fun cdv A outer s H0 vs Q E hr h => ?_)⟩
  · obtain ⟨d0, d1, d2, r, rfl, hm, hQ⟩ := h; rfl
  ·
    obtain ⟨d0, d1, d2, r, rfl, hm, hQ⟩ := h
    refine ⟨_, pss_cons (ps_ret (pe_tup (pa_cons (pe_cc C_round_up hr (pa_cons (pv 0) (pa_cons (pv 2) pa_nil))) (pa_cons (pe_cc C_round_up hr (pa_cons (pv 0) (pa_cons (pv 1) pa_nil))) pa_nil)))) pss_nil, ?_⟩
    have c0 : Chg ([] : List Addr) H0 H0 := Chg.refl H0
    unfold Mi.m_leg_hours at hm
    refine q_ret ?_
    refine w_tup ?_
    refine w_cons ?_
    refine w_call ?_
    refine w_args (va_cons (val_var rfl) (va_cons (val_var rfl) va_nil)) ?_
    obtain ⟨q1, hq1, hm⟩ := Mi.bnd hm
    refine ⟨d0, d2, q1, rfl, hq1, fun H3 c2  => ?_⟩
    have c0 := c0.trans c2.none
    refine w_cons ?_
    refine w_call ?_
    refine w_args (va_cons (val_var rfl) (va_cons (val_var rfl) va_nil)) ?_
    obtain ⟨q4, hq4, hm⟩ := Mi.bnd hm
    refine ⟨d0, d1, q4, rfl, hq4, fun H6 c5  => ?_⟩
    have c0 := c0.trans c5.none
    refine w_nil ?_
    refine e_tup (K := K) (ty := (sCons yInt (sOne yInt))) (F := []) (d := (q1, q4)) (by exact Nat.le_of_ble_eq_true rfl) ⟨_, _, _, _, rfl, rfl, yInt_i, ⟨_, rfl, yInt_i⟩⟩ fun p7 H11 np10 c8 r9 => ?_
    have c0 := c0.trans c8.none
    obtain rfl := Option.some.inj hm
    exact hQ _ _ c0 r9 
abbrev s_leg_speeds : Stmt := topS 4
theorem sc_leg_speeds : FnScope ["length", "slow", "fast", "hours", "low", "high", "speeds", "made", "remaining", "speed"] ["length", "slow", "fast", "hours"] (defScope s_leg_speeds) := ⟨rfl, rfl, rfl, by decide +kernel, rfl, by decide +kernel, by decide +kernel⟩
def sp_leg_speeds (K : PySem.W.Frag) : Sp := fun vs H Q _ => ∃ (d0 : Int) (d1 : Int) (d2 : Int) (d3 : Int) (r : (Option (List Int))), vs = [(.int d0), (.int d1), (.int d2), (.int d3)] ∧ Mi.m_leg_speeds d0 d1 d2 d3 = some r ∧ ∀ v H' F, Chg ([]) H H' → (yOpt (yLst yInt)).rep K H' F v r → (∀ a ∈ F, H a = none) → Q v H'
theorem ok_leg_speeds (B : Bi mg) (D : Dfn K mg "leg_speeds" s_leg_speeds) (C_leg_hours : Cal P w K mg "leg_hours" ["length", "slow", "fast"] 2 (sp_leg_hours K)) : Cal P w K mg "leg_speeds" ["length", "slow", "fast", "hours"] 3 (sp_leg_speeds K) := by
  obtain ⟨f, fd, F, g⟩ := D.ex
  refine ⟨f, fd, g, F.kp, bindsF F (fun _ _ _ _ _ _ us hl => match us, hl with | [_, _, _, _], _ => rfl), fun base => F.ok sc_leg_speeds (fun vs H Q E h => ?_) (fun cdv A outer s H0 vs Q E hr h => ?_)⟩
  · obtain ⟨d0, d1, d2, d3, r, rfl, hm, hQ⟩ := h; rfl
  ·
    obtain ⟨d0, d1, d2, d3, r, rfl, hm, hQ⟩ := h
    refine ⟨_, pss_cons (ps_asg (pe_cc C_leg_hours hr (pa_cons (pv 0) (pa_cons (pv 1) (pa_cons (pv 2) pa_nil)))) (pg_tup rfl (pgs_cons (pg_name (i := 4) sc_leg_speeds.nd rfl (.inl rfl)) (pgs_cons (pg_name (i := 5) sc_leg_speeds.nd rfl (.inl rfl)) pgs_nil))))
      (pss_cons (ps_if (PW.pt (pw_or (pt_cmpR op_lt (pv 3) (pv 4) (nomark _)) (pw_or1 (pt_cmpR op_gt (pv 3) (pv 5) (nomark _))))) (pss_cons (ps_ret pe_non) pss_nil) (pss_nil))
      (pss_cons (ps_set (i := 6) sc_leg_speeds.nd rfl (.inl rfl) (pe_lst pa_nil))
      (pss_cons (ps_set (i := 7) sc_leg_speeds.nd rfl (.inl rfl) pe_int)
      (pss_cons (ps_for PassesOwn.never rfl (pi_range3 rfl B.range (pa_cons (pe_op op_sub (pv 3) pe_int) (pa_cons (pe_un un_neg pe_int) (pa_cons (pe_un un_neg pe_int) pa_nil)))) (pg_name (i := 8) sc_leg_speeds.nd rfl (.inl rfl)) (pss_cons (ps_set (i := 9) sc_leg_speeds.nd rfl (.inl rfl) (pe_callB (cl_max2 rfl) (by rfl) B.max (by decide +kernel) (pa_cons (pv 1) (pa_cons (pe_op op_sub (pe_op op_sub (pv 0) (pv 7)) (pe_op op_mul (pv 8) (pv 2))) pa_nil))))
      (pss_cons (ps_expr (pe_bm PySem.F.plainAttrs_list PySem.F.slot_list_append PySem.F.type_list_append mt_append (pv 6) (pa_cons (pv 9) pa_nil)))
      (pss_cons (ps_aug (i := 7) sc_leg_speeds.nd rfl (.inl rfl) (pv 9) ip_add)
      (pss_nil)))))
      (pss_cons (ps_ret (pv 6)) pss_nil))))), ?_⟩
    have c0 : Chg ([] : List Addr) H0 H0 := Chg.refl H0
    unfold Mi.m_leg_speeds at hm
    refine q_asg ?_
    refine w_call ?_
    refine w_args (va_cons (val_var rfl) (va_cons (val_var rfl) (va_cons (val_var rfl) va_nil))) ?_
    obtain ⟨q1, hq1, hm⟩ := Mi.bnd hm
    refine ⟨d0, d1, d2, q1, rfl, hq1, fun v4 H3 c2 r5  => ?_⟩
    have c0 := c0.trans c2.none
    refine g_tup2 r5 fun u6 u7 r8 r9 => ?_
    obtain ⟨_, rfl⟩ := r8
    obtain ⟨_, rfl⟩ := r9
    refine g_names (σ' := [some (.int d0), some (.int d1), some (.int d2), some (.int d3), some (.int q1.1), some (.int q1.2), none, none, none, none]) rfl ?_
    refine q_if (ans_orB (ans_t (val_lt (val_var rfl) (val_var rfl))) (fun _ => (ans_t (val_gt (val_var rfl) (val_var rfl))))) (fun hb => ?_) (fun hb => ?_)
    ·
      replace hm := Mi.ifT hb hm
      refine q_ret ?_
      refine c_val val_c ?_
      obtain rfl := Option.some.inj hm
      exact hQ _ _ _ c0 (show _ ∧ _ from ⟨rfl, rfl⟩) nil_fresh 
    replace hm := Mi.ifF hb hm
    refine w_fall ?_
    refine q_asg ?_
    refine w_lst ?_
    refine w_args va_nil ?_
    refine e_lst (K := K) (τ := yInt) (by exact Nat.le_of_ble_eq_true rfl) .nil fun p11 H15 np14 c12 r13 => ?_
    have n16 : ∀ a ∈ [p11], H0 a = none := one_fresh (c0.dom p11 np14)
    have c0 := c0.trans c12.none
    refine g_name (σ' := [some (.int d0), some (.int d1), some (.int d2), some (.int d3), some (.int q1.1), some (.int q1.2), some (.ref p11), none, none, none]) rfl ?_
    obtain ⟨made17, hmade17, hm⟩ := Mi.letE hm
    refine q_setE val_c (congrArg V.int hmade17) (σ' := [some (.int d0), some (.int d1), some (.int d2), some (.int d3), some (.int q1.1), some (.int q1.2), some (.ref p11), some (.int made17), none, none]) rfl ?_
    refine q_for ?_
    refine w_iRng3 ?_
    refine w_args (va_cons (val_sub (val_var rfl) val_c) (va_cons (val_neg val_c) (va_cons (val_neg val_c) va_nil))) ?_
    obtain ⟨g18, hg18, hm⟩ := Mi.bnd hm
    obtain ⟨e19, he19, hm⟩ := Mi.bnd hm
    refine l_rngD hg18 (fun i σ' H' => ∃ (s20 : ((List Int) × Int)) (y21 : Option V) (y22 : Option V), σ' = [some (.int d0), some (.int d1), some (.int d2), some (.int d3), some (.int q1.1), some (.int q1.2), some (.ref p11), some (.int s20.2), y21, y22] ∧ Chg ([] : List Addr) H0 H' ∧ (yLst yInt).rep K H' [p11] (.ref p11) s20.1 ∧ Mi.forN (Mi.m_leg_speeds_b1 d0 d1 d2) s20 (List.drop i g18) = some e19) ⟨(([] : (List Int)), made17), none, none, rfl, c0, r13, he19⟩ (fun i25 x24 σ' H' hx23 hp => ?_) (fun σ' H' hp => ?_)
    ·
      obtain ⟨s20, y21, y22, rfl, c0, r13, hle19⟩ := hp
      obtain ⟨_, hbe19, hle19⟩ := Mi.forN_go hle19 hx23
      unfold Mi.m_leg_speeds_b1 at hbe19
      refine g_name (σ' := [some (.int d0), some (.int d1), some (.int d2), some (.int d3), some (.int q1.1), some (.int q1.2), some (.ref p11), some (.int s20.2), some (.int x24), y22]) rfl ?_
      obtain ⟨x26, hx26, hbe19⟩ := Mi.bnd hbe19
      obtain ⟨speed27, hspeed27, hbe19⟩ := Mi.letE hbe19
      refine q_setE (val_max2 (val_var rfl) (val_sub (val_sub (val_var rfl) (val_var rfl)) (val_mul (val_var rfl) (val_var rfl) hx26))) (congrArg V.int hspeed27) (σ' := [some (.int d0), some (.int d1), some (.int d2), some (.int d3), some (.int q1.1), some (.int q1.2), some (.ref p11), some (.int s20.2), some (.int x24), some (.int speed27)]) rfl ?_
      refine q_drop (w_bm (c_val (val_var rfl) ⟨tyv_lst r13, ?_⟩))
      refine w_args (va_cons (val_var rfl) va_nil) ?_
      obtain ⟨x28, hx28, hbe19⟩ := Mi.bnd hbe19
      refine m_app r13 yInt_i hx28 fun H30 c29 r13 => ?_
      have c0 := c0.join c29 (fun a h => .inr (n16 a h))
      obtain ⟨made31, hmade31, hbe19⟩ := Mi.letE hbe19
      refine q_aug rfl (val_var rfl) hmade31 (σ' := [some (.int d0), some (.int d1), some (.int d2), some (.int d3), some (.int q1.1), some (.int q1.2), some (.ref p11), some (.int made31), some (.int x24), some (.int speed27)]) rfl ?_
      refine w_nextJ ?_
      obtain rfl := Option.some.inj hbe19
      exact ⟨_, (some (.int x24)), (some (.int speed27)), rfl, c0, r13, hle19⟩
    obtain ⟨s20, y21, y22, rfl, c0, r13, hle19⟩ := hp
    obtain rfl := Mi.forN_end hle19
    refine q_ret ?_
    refine c_val (val_var rfl) ?_
    obtain rfl := Option.some.inj hm
    exact hQ _ _ _ c0 (show _ ∧ _ from ⟨(nn_lst r13), r13⟩) n16 
abbrev s_l_hand : Stmt := topS 6
theorem sc_l_hand : FnScope ["_law_script", "_law_k", "_law_cell", "_law_rest"] ["_law_script", "_law_k"] (defScope s_l_hand) := ⟨rfl, rfl, rfl, by decide +kernel, rfl, by decide +kernel, by decide +kernel⟩
def sp_l_hand (K : PySem.W.Frag) : Sp := fun vs H Q _ => ∃ (v0 : V) (d0 : (List Int)) (d1 : Int) (r : (List Int)), vs = [v0, (.int d1)] ∧ yScr.rep K H [] v0 d0 ∧ Mi.m_l_hand d0 d1 = some r ∧ ∀ v H' F, Chg ([]) H H' → (yLst yInt).rep K H' F v r → (∀ a ∈ F, H a = none) → Q v H'
theorem ok_l_hand (B : Bi mg) (D : Dfn K mg "_law_hand" s_l_hand)  : Cal P w K mg "_law_hand" ["_law_script", "_law_k"] 1 (sp_l_hand K) := by
  obtain ⟨f, fd, F, g⟩ := D.ex
  refine ⟨f, fd, g, F.kp, bindsF F (fun _ _ _ _ _ _ us hl => match us, hl with | [_, _], _ => rfl), fun base => F.ok sc_l_hand (fun vs H Q E h => ?_) (fun cdv A outer s H0 vs Q E hr h => ?_)⟩
  · obtain ⟨v0, d0, d1, r, rfl, r0, hm, hQ⟩ := h; rfl
  ·
    obtain ⟨v0, d0, d1, r, rfl, r0, hm, hQ⟩ := h
    refine ⟨_, pss_cons (ps_set (i := 2) sc_l_hand.nd rfl (.inl rfl) pe_int)
      (pss_cons (ps_if (pt_cmpR op_lt (pv 1) (pe_callB (cl_len (K := K)) (by rfl) B.len PySem.boot_len (pa_cons (pv 0) pa_nil)) (nomark _)) (pss_cons (ps_set (i := 2) sc_l_hand.nd rfl (.inl rfl) (pe_ix (ix_l (K := K)) (pv 0) (pv 1) (fun _ _ => rfl)))
      (pss_nil)) (pss_nil))
      (pss_cons (ps_if (pt_cmpR op_lt (pv 2) pe_int (nomark _)) (pss_cons (ps_set (i := 2) sc_l_hand.nd rfl (.inl rfl) (pe_op op_sub pe_int (pe_op op_mul pe_int (pv 2))))
      (pss_nil)) (pss_nil))
      (pss_cons (ps_set (i := 3) sc_l_hand.nd rfl (.inl rfl) pe_int)
      (pss_cons (ps_if (pt_cmpR op_ge (pv 2) (pe_op op_pow pe_int pe_int) (nomark _)) (pss_cons (ps_set (i := 3) sc_l_hand.nd rfl (.inl rfl) (pv 2))
      (pss_nil)) (pss_nil))
      (pss_cons (ps_ret (pe_lst (pa_cons (pv 3) (pa_cons (pe_op op_mod (pe_callTy cl_int (by rfl) B.int (by decide +kernel) (pa_cons (pe_op op_add (pe_op op_add (pv 2) (pe_op op_mul pe_int (pv 1))) pe_int) pa_nil)) pe_int) (pa_cons pe_int pa_nil))))) pss_nil))))), ?_⟩
    have c0 : Chg ([] : List Addr) H0 H0 := Chg.refl H0
    unfold Mi.m_l_hand at hm
    obtain ⟨cell1, hcell1, hm⟩ := Mi.letE hm
    refine q_setE val_c (congrArg V.int hcell1) (σ' := [some v0, some (.int d1), some (.int cell1), none]) rfl ?_
    obtain ⟨s2, hs2, hm⟩ := Mi.bnd hm
    refine s_join (R := fun σ' H' => σ' = [some v0, some (.int d1), some (.int s2), none] ∧ Chg ([] : List Addr) H0 H' ∧ yScr.rep K H' [] v0 d0) (fun nx kx => ?_) (fun σ' H' hj => ?_)
    ·
      refine s_if (ans_t (val_lt (val_var rfl) (val_lenS r0 (val_var rfl)))) (fun hb => ?_) (fun hb => ?_)
      ·
        replace hs2 := Mi.ifT hb hs2
        obtain ⟨x3, hx3, hs2⟩ := Mi.bnd hs2
        obtain ⟨cell4, hcell4, hs2⟩ := Mi.letE hs2
        refine q_setE (itm_S r0 hx3 (val_var rfl) (val_var rfl)) (congrArg V.int hcell4) (σ' := [some v0, some (.int d1), some (.int cell4), none]) rfl ?_
        refine w_nextJ ?_
        obtain rfl := Option.some.inj hs2
        exact kx _ _ ⟨rfl, c0, r0⟩
      ·
        replace hs2 := Mi.ifF hb hs2
        refine w_nextJ ?_
        obtain rfl := Option.some.inj hs2
        exact kx _ _ ⟨rfl, c0, r0⟩
    obtain ⟨rfl, c0, r0⟩ := hj
    obtain ⟨s5, hs5, hm⟩ := Mi.bnd hm
    refine s_join (R := fun σ' H' => σ' = [some v0, some (.int d1), some (.int s5), none] ∧ Chg ([] : List Addr) H0 H' ∧ yScr.rep K H' [] v0 d0) (fun nx kx => ?_) (fun σ' H' hj => ?_)
    ·
      refine s_if (ans_t (val_lt (val_var rfl) val_c)) (fun hb => ?_) (fun hb => ?_)
      ·
        replace hs5 := Mi.ifT hb hs5
        obtain ⟨cell6, hcell6, hs5⟩ := Mi.letE hs5
        refine q_setE (val_sub val_c (val_mulL val_c (val_var rfl) ⟨by decide, by decide⟩)) (congrArg V.int hcell6) (σ' := [some v0, some (.int d1), some (.int cell6), none]) rfl ?_
        refine w_nextJ ?_
        obtain rfl := Option.some.inj hs5
        exact kx _ _ ⟨rfl, c0, r0⟩
      ·
        replace hs5 := Mi.ifF hb hs5
        refine w_nextJ ?_
        obtain rfl := Option.some.inj hs5
        exact kx _ _ ⟨rfl, c0, r0⟩
    obtain ⟨rfl, c0, r0⟩ := hj
    obtain ⟨rest7, hrest7, hm⟩ := Mi.letE hm
    refine q_setE val_c (congrArg V.int hrest7) (σ' := [some v0, some (.int d1), some (.int s5), some (.int rest7)]) rfl ?_
    obtain ⟨s8, hs8, hm⟩ := Mi.bnd hm
    refine s_join (R := fun σ' H' => σ' = [some v0, some (.int d1), some (.int s5), some (.int s8)] ∧ Chg ([] : List Addr) H0 H' ∧ yScr.rep K H' [] v0 d0) (fun nx kx => ?_) (fun σ' H' hj => ?_)
    ·
      refine s_if (ans_t (val_ge (val_var rfl) (val_pow (n := 18) val_c val_c rfl (by decide) (by decide)))) (fun hb => ?_) (fun hb => ?_)
      ·
        replace hs8 := Mi.ifT hb hs8
        obtain ⟨rest9, hrest9, hs8⟩ := Mi.letE hs8
        refine q_setE (val_var rfl) (congrArg V.int hrest9) (σ' := [some v0, some (.int d1), some (.int s5), some (.int rest9)]) rfl ?_
        refine w_nextJ ?_
        obtain rfl := Option.some.inj hs8
        exact kx _ _ ⟨rfl, c0, r0⟩
      ·
        replace hs8 := Mi.ifF hb hs8
        refine w_nextJ ?_
        obtain rfl := Option.some.inj hs8
        exact kx _ _ ⟨rfl, c0, r0⟩
    obtain ⟨rfl, c0, r0⟩ := hj
    refine q_ret ?_
    refine w_lst ?_
    refine w_args (va_cons (val_var rfl) (va_cons (val_modc (val_int (val_add (val_add (val_var rfl) (val_mulL val_c (val_var rfl) ⟨by decide, by decide⟩)) val_c)) val_c (by decide)) (va_cons val_c va_nil))) ?_
    refine e_lst (K := K) (τ := yInt) (by exact Nat.le_of_ble_eq_true rfl) (.cons yInt_i (.cons yInt_i (.cons yInt_i .nil))) fun p10 H14 np13 c11 r12 => ?_
    have n15 : ∀ a ∈ [p10], H0 a = none := one_fresh (c0.dom p10 np13)
    have r0 := Ty.fz r0 c11
    have c0 := c0.trans c11.none
    obtain rfl := Option.some.inj hm
    exact hQ _ _ _ c0 r12 n15 
abbrev s_l_pick : Stmt := topS 7
theorem sc_l_pick : FnScope ["_law_hand_here", "_law_size", "_law_digit", "_law_mixed"] ["_law_hand_here", "_law_size"] (defScope s_l_pick) := ⟨rfl, rfl, rfl, by decide +kernel, rfl, by decide +kernel, by decide +kernel⟩
def sp_l_pick (K : PySem.W.Frag) : Sp := fun vs H Q _ => ∃ (v0 : V) (F0 : List Addr) (d0 : (List Int)) (d1 : Int) (r : (Int × (List Int))), vs = [v0, (.int d1)] ∧ (yLst yInt).rep K H F0 v0 d0 ∧ Mi.m_l_pick d0 d1 = some r ∧ ∀ H', Chg (F0) H H' → (yLst yInt).rep K H' F0 v0 r.2 → Q (.int r.1) H'
theorem ok_l_pick (B : Bi mg) (D : Dfn K mg "_law_pick" s_l_pick)  : Cal P w K mg "_law_pick" ["_law_hand_here", "_law_size"] 1 (sp_l_pick K) := by
  obtain ⟨f, fd, F, g⟩ := D.ex
  refine ⟨f, fd, g, F.kp, bindsF F (fun _ _ _ _ _ _ us hl => match us, hl with | [_, _], _ => rfl), fun base => F.ok sc_l_pick (fun vs H Q E h => ?_) (fun cdv A outer s H0 vs Q E hr h => ?_)⟩
  · obtain ⟨v0, F0, d0, d1, r, rfl, r0, hm, hQ⟩ := h; rfl
  ·
    obtain ⟨v0, F0, d0, d1, r, rfl, r0, hm, hQ⟩ := h
    refine ⟨_, pss_cons (ps_if (pt_cmpR op_lt (pv 1) pe_int (nomark _)) (pss_cons (ps_ret pe_int) pss_nil) (pss_nil))
      (pss_cons (ps_if (pt_cmpR op_gt (pe_ix (ix_l (K := K)) (pv 0) pe_int (fun _ _ => rfl)) pe_int (nomark _)) (pss_cons (ps_set (i := 2) sc_l_pick.nd rfl (.inl rfl) (pe_op op_mod (pe_callTy cl_int (by rfl) B.int (by decide +kernel) (pa_cons (pe_ix (ix_l (K := K)) (pv 0) pe_int (fun _ _ => rfl)) pa_nil)) (pv 1)))
      (pss_cons (ps_asg (pe_op op_fdivW (pe_ix (ix_l (K := K)) (pv 0) pe_int (fun _ _ => rfl)) (pv 1)) (pg_sub (pv 0) pe_int set_list))
      (pss_cons (ps_ret (pv 2)) pss_nil))) (pss_nil))
      (pss_cons (ps_asg (pe_op op_add (pe_ix (ix_l (K := K)) (pv 0) pe_int (fun _ _ => rfl)) pe_int) (pg_sub (pv 0) pe_int set_list))
      (pss_cons (ps_set (i := 3) sc_l_pick.nd rfl (.inl rfl) (pe_op op_mod (pe_callTy cl_int (by rfl) B.int (by decide +kernel) (pa_cons (pe_op op_add (pe_op op_add (pe_ix (ix_l (K := K)) (pv 0) pe_int (fun _ _ => rfl)) (pe_op op_mul pe_int (pe_ix (ix_l (K := K)) (pv 0) pe_int (fun _ _ => rfl)))) pe_int) pa_nil)) pe_int))
      (pss_cons (ps_set (i := 3) sc_l_pick.nd rfl (.inl rfl) (pe_op op_mod (pe_callTy cl_int (by rfl) B.int (by decide +kernel) (pa_cons (pe_op op_mul (pv 3) (pe_op op_add (pv 3) pe_int)) pa_nil)) pe_int))
      (pss_cons (ps_set (i := 3) sc_l_pick.nd rfl (.inl rfl) (pe_op op_mod (pe_callTy cl_int (by rfl) B.int (by decide +kernel) (pa_cons (pe_op op_add (pe_op op_mul (pv 3) (pe_op op_add (pv 3) pe_int)) (pe_op op_mul pe_int (pe_ix (ix_l (K := K)) (pv 0) pe_int (fun _ _ => rfl)))) pa_nil)) pe_int))
      (pss_cons (ps_ret (pe_op op_mod (pe_callTy cl_int (by rfl) B.int (by decide +kernel) (pa_cons (pe_op op_fdiv (pv 3) pe_int) pa_nil)) (pv 1))) pss_nil)))))), ?_⟩
    have c0 : Chg (F0) H0 H0 := Chg.refl H0
    unfold Mi.m_l_pick at hm
    refine q_if (ans_t (val_lt (val_var rfl) val_c)) (fun hb => ?_) (fun hb => ?_)
    ·
      replace hm := Mi.ifT hb hm
      refine q_ret ?_
      refine c_val val_c ?_
      obtain rfl := Option.some.inj hm
      exact hQ _ c0 r0
    replace hm := Mi.ifF hb hm
    refine w_fall ?_
    obtain ⟨x1, hx1, hm⟩ := Mi.bnd hm
    refine q_if (ans_t (val_gt (itm_LI r0 hx1 (val_var rfl) val_c) val_c)) (fun hb => ?_) (fun hb => ?_)
    ·
      replace hm := Mi.ifT hb hm
      obtain ⟨x2, hx2, hm⟩ := Mi.bnd hm
      obtain ⟨x3, hx3, hm⟩ := Mi.bnd hm
      obtain ⟨digit4, hdigit4, hm⟩ := Mi.letE hm
      refine q_setE (val_mod (val_int (itm_LI r0 hx2 (val_var rfl) val_c)) (val_var rfl) hx3) (congrArg V.int hdigit4) (σ' := [some v0, some (.int d1), some (.int digit4), none]) rfl ?_
      refine q_asg ?_
      obtain ⟨x5, hx5, hm⟩ := Mi.bnd hm
      obtain ⟨x6, hx6, hm⟩ := Mi.bnd hm
      refine c_val (val_fdiv (itm_LI r0 hx5 (val_var rfl) val_c) (val_var rfl) hx6) ?_
      refine w_gsub ?_
      refine c_val (val_var rfl) ?_
      refine c_val val_c ?_
      obtain ⟨x7, hx7, hm⟩ := Mi.bnd hm
      refine m_set r0 yInt_i hx7 fun H9 c8 r0 => ?_
      have c0 := c0.join c8 (fun a h => .inl (h))
      refine q_ret ?_
      refine c_val (val_var rfl) ?_
      obtain rfl := Option.some.inj hm
      exact hQ _ c0 r0
    replace hm := Mi.ifF hb hm
    refine w_fall ?_
    refine q_asg ?_
    obtain ⟨x10, hx10, hm⟩ := Mi.bnd hm
    refine c_val (val_add (itm_LI r0 hx10 (val_var rfl) val_c) val_c) ?_
    refine w_gsub ?_
    refine c_val (val_var rfl) ?_
    refine c_val val_c ?_
    obtain ⟨x11, hx11, hm⟩ := Mi.bnd hm
    refine m_set r0 yInt_i hx11 fun H13 c12 r0 => ?_
    have c0 := c0.join c12 (fun a h => .inl (h))
    obtain ⟨x14, hx14, hm⟩ := Mi.bnd hm
    obtain ⟨x15, hx15, hm⟩ := Mi.bnd hm
    obtain ⟨mixed16, hmixed16, hm⟩ := Mi.letE hm
    refine q_setE (val_modc (val_int (val_add (val_add (itm_LI r0 hx14 (val_var rfl) val_c) (val_mulL val_c (itm_LI r0 hx15 (val_var rfl) val_c) ⟨by decide, by decide⟩)) val_c)) val_c (by decide)) (congrArg V.int hmixed16) (σ' := [some v0, some (.int d1), none, some (.int mixed16)]) rfl ?_
    obtain ⟨x17, hx17, hm⟩ := Mi.bnd hm
    obtain ⟨mixed18, hmixed18, hm⟩ := Mi.letE hm
    refine q_setE (val_modc (val_int (val_mul (val_var rfl) (val_add (val_var rfl) val_c) hx17)) val_c (by decide)) (congrArg V.int hmixed18) (σ' := [some v0, some (.int d1), none, some (.int mixed18)]) rfl ?_
    obtain ⟨x19, hx19, hm⟩ := Mi.bnd hm
    obtain ⟨x20, hx20, hm⟩ := Mi.bnd hm
    obtain ⟨mixed21, hmixed21, hm⟩ := Mi.letE hm
    refine q_setE (val_modc (val_int (val_add (val_mul (val_var rfl) (val_add (val_var rfl) val_c) hx19) (val_mulL val_c (itm_LI r0 hx20 (val_var rfl) val_c) ⟨by decide, by decide⟩))) val_c (by decide)) (congrArg V.int hmixed21) (σ' := [some v0, some (.int d1), none, some (.int mixed21)]) rfl ?_
    refine q_ret ?_
    obtain ⟨x22, hx22, hm⟩ := Mi.bnd hm
    refine c_val (val_mod (val_int (val_divc (val_var rfl) val_c ⟨by decide, by decide⟩)) (val_var rfl) hx22) ?_
    obtain rfl := Option.some.inj hm
    exact hQ _ c0 r0
abbrev s_l_int : Stmt := topS 8
theorem sc_l_int : FnScope ["_law_x"] ["_law_x"] (defScope s_l_int) := ⟨rfl, rfl, rfl, by decide +kernel, rfl, by decide +kernel, by decide +kernel⟩
def sp_l_int (K : PySem.W.Frag) : Sp := fun vs H Q _ => ∃ (d0 : Int) (r : Bool), vs = [(.int d0)] ∧ Mi.m_l_int d0 = some r ∧ ∀ H', Chg ([]) H H' → Q (.bl r) H'
theorem ok_l_int (B : Bi mg) (D : Dfn K mg "_law_int" s_l_int)  : Cal P w K mg "_law_int" ["_law_x"] 1 (sp_l_int K) := by
  obtain ⟨f, fd, F, g⟩ := D.ex
  refine ⟨f, fd, g, F.kp, bindsF F (fun _ _ _ _ _ _ us hl => match us, hl with | [_], _ => rfl), fun base => F.ok sc_l_int (fun vs H Q E h => ?_) (fun cdv A outer s H0 vs Q E hr h => ?_)⟩
  · obtain ⟨d0, r, rfl, hm, hQ⟩ := h; rfl
  ·
    obtain ⟨d0, r, rfl, hm, hQ⟩ := h
    refine ⟨_, pss_cons (ps_ret (pe_and (pe_callB (cl_isi (K := K)) (by rfl) B.isinstance (by decide +kernel) (pa_cons (pv 0) (pa_cons (pe_bltn (v := .ty "int") (by rfl) B.int (by decide +kernel) rfl) pa_nil))) (pe_one (pe_not (pe_callB (cl_isi (K := K)) (by rfl) B.isinstance (by decide +kernel) (pa_cons (pv 0) (pa_cons (pe_bltn (v := .ty "bool") (by rfl) B.bool (by decide +kernel) rfl) pa_nil))))))) pss_nil, ?_⟩
    have c0 : Chg ([] : List Addr) H0 H0 := Chg.refl H0
    unfold Mi.m_l_int at hm
    refine q_ret ?_
    refine c_val (val_andV (val_isi (val_var rfl) ty_int (n := "int") (m := "int") (b := true) (by decide +kernel)) (fun _ => (val_notV (val_isi (val_var rfl) ty_int (n := "int") (m := "bool") (b := false) (by decide +kernel))))) ?_
    obtain rfl := Option.some.inj hm
    exact hQ _ c0 
abbrev s_l_least_hours : Stmt := topS 9
theorem sc_l_least_hours : FnScope ["_law_length", "_law_speed", "_law_hours", "_law_turn"] ["_law_length", "_law_speed"] (defScope s_l_least_hours) := ⟨rfl, rfl, rfl, by decide +kernel, rfl, by decide +kernel, by decide +kernel⟩
def sp_l_least_hours (K : PySem.W.Frag) : Sp := fun vs H Q _ => ∃ (d0 : Int) (d1 : Int) (r : Int), vs = [(.int d0), (.int d1)] ∧ Mi.m_l_least_hours d0 d1 = some r ∧ ∀ H', Chg ([]) H H' → Q (.int r) H'
theorem ok_l_least_hours (B : Bi mg) (D : Dfn K mg "_law_least_hours" s_l_least_hours)  : Cal P w K mg "_law_least_hours" ["_law_length", "_law_speed"] 1 (sp_l_least_hours K) := by
  obtain ⟨f, fd, F, g⟩ := D.ex
  refine ⟨f, fd, g, F.kp, bindsF F (fun _ _ _ _ _ _ us hl => match us, hl with | [_, _], _ => rfl), fun base => F.ok sc_l_least_hours (fun vs H Q E h => ?_) (fun cdv A outer s H0 vs Q E hr h => ?_)⟩
  · obtain ⟨d0, d1, r, rfl, hm, hQ⟩ := h; rfl
  ·
    obtain ⟨d0, d1, r, rfl, hm, hQ⟩ := h
    refine ⟨_, pss_cons (ps_set (i := 2) sc_l_least_hours.nd rfl (.inl rfl) pe_int)
      (pss_cons (ps_for PassesOwn.never rfl (pi_range1 (by rfl) B.range (pa_cons pe_int pa_nil)) (pg_name (i := 3) sc_l_least_hours.nd rfl (.inl rfl)) (pss_cons (ps_if (pt_cmpR op_lt (pe_op op_mul (pv 2) (pv 1)) (pv 0) (nomark _)) (pss_cons (ps_set (i := 2) sc_l_least_hours.nd rfl (.inl rfl) (pe_op op_add (pv 2) pe_int))
      (pss_nil)) (pss_nil))
      (pss_nil)))
      (pss_cons (ps_ret (pv 2)) pss_nil)), ?_⟩
    have c0 : Chg ([] : List Addr) H0 H0 := Chg.refl H0
    unfold Mi.m_l_least_hours at hm
    obtain ⟨hours1, hhours1, hm⟩ := Mi.letE hm
    refine q_setE val_c (congrArg V.int hhours1) (σ' := [some (.int d0), some (.int d1), some (.int hours1), none]) rfl ?_
    refine q_for ?_
    refine w_iRng1 ?_
    refine w_args (va_cons val_c va_nil) ?_
    obtain ⟨g2, hg2, hm⟩ := Mi.bnd hm
    obtain ⟨e3, he3, hm⟩ := Mi.bnd hm
    refine l_rng1 hg2 (fun i σ' H' => ∃ (s4 : Int) (y5 : Option V), σ' = [some (.int d0), some (.int d1), some (.int s4), y5] ∧ Chg ([] : List Addr) H0 H' ∧ Mi.forN (Mi.m_l_least_hours_b1 d0 d1) s4 (List.drop i g2) = some e3) ⟨hours1, none, rfl, c0, he3⟩ (fun i8 x7 σ' H' hx6 hp => ?_) (fun σ' H' hp => ?_)
    ·
      obtain ⟨s4, y5, rfl, c0, hle3⟩ := hp
      obtain ⟨_, hbe3, hle3⟩ := Mi.forN_go hle3 hx6
      unfold Mi.m_l_least_hours_b1 at hbe3
      refine g_name (σ' := [some (.int d0), some (.int d1), some (.int s4), some (.int x7)]) rfl ?_
      obtain ⟨s9, hs9, hbe3⟩ := Mi.bnd hbe3
      refine s_join (R := fun σ' H' => σ' = [some (.int d0), some (.int d1), some (.int s9), some (.int x7)] ∧ Chg ([] : List Addr) H0 H') (fun nx kx => ?_) (fun σ' H' hj => ?_)
      ·
        obtain ⟨x10, hx10, hs9⟩ := Mi.bnd hs9
        refine s_if (ans_t (val_lt (val_mul (val_var rfl) (val_var rfl) hx10) (val_var rfl))) (fun hb => ?_) (fun hb => ?_)
        ·
          replace hs9 := Mi.ifT hb hs9
          obtain ⟨hours11, hhours11, hs9⟩ := Mi.letE hs9
          refine q_setE (val_add (val_var rfl) val_c) (congrArg V.int hhours11) (σ' := [some (.int d0), some (.int d1), some (.int hours11), some (.int x7)]) rfl ?_
          refine w_nextJ ?_
          obtain rfl := Option.some.inj hs9
          exact kx _ _ ⟨rfl, c0⟩
        ·
          replace hs9 := Mi.ifF hb hs9
          refine w_nextJ ?_
          obtain rfl := Option.some.inj hs9
          exact kx _ _ ⟨rfl, c0⟩
      obtain ⟨rfl, c0⟩ := hj
      refine w_nextJ ?_
      obtain rfl := Option.some.inj hbe3
      exact ⟨_, (some (.int x7)), rfl, c0, hle3⟩
    obtain ⟨s4, y5, rfl, c0, hle3⟩ := hp
    obtain rfl := Mi.forN_end hle3
    refine q_ret ?_
    refine c_val (val_var rfl) ?_
    obtain rfl := Option.some.inj hm
    exact hQ _ c0 
abbrev s_l_leg : Stmt := topS 10
theorem sc_l_leg : FnScope ["_law_hand_here", "_law_length", "_law_top", "_law_low", "_law_least", "_law_most", "_law_kind", "_law_hours"] ["_law_hand_here"] (defScope s_l_leg) := ⟨rfl, rfl, rfl, by decide +kernel, rfl, by decide +kernel, by decide +kernel⟩
def sp_l_leg (K : PySem.W.Frag) : Sp := fun vs H Q _ => ∃ (v0 : V) (F0 : List Addr) (d0 : (List Int)) (r : ((Int × Int × Int × Int) × (List Int))), vs = [v0] ∧ (yLst yInt).rep K H F0 v0 d0 ∧ Mi.m_l_leg d0 = some r ∧ ∀ v H', Chg (F0) H H' → (yTup (sCons yInt (sCons yInt (sCons yInt (sOne yInt))))).rep K H' [] v r.1 → (yLst yInt).rep K H' F0 v0 r.2 → Q v H'
theorem ok_l_leg (B : Bi mg) (D : Dfn K mg "_law_leg" s_l_leg) (C_l_pick : Cal P w K mg "_law_pick" ["_law_hand_here", "_law_size"] 1 (sp_l_pick K)) (C_l_least_hours : Cal P w K mg "_law_least_hours" ["_law_length", "_law_speed"] 1 (sp_l_least_hours K)) : Cal P w K mg "_law_leg" ["_law_hand_here"] 2 (sp_l_leg K) := by
  obtain ⟨f, fd, F, g⟩ := D.ex
  refine ⟨f, fd, g, F.kp, bindsF F (fun _ _ _ _ _ _ us hl => match us, hl with | [_], _ => rfl), fun base => F.ok sc_l_leg (fun vs H Q E h => ?_) (fun cdv A outer s H0 vs Q E hr h => ?_)⟩
  · obtain ⟨v0, F0, d0, r, rfl, r0, hm, hQ⟩ := h; rfl
  ·
    obtain ⟨v0, F0, d0, r, rfl, r0, hm, hQ⟩ := h
    refine ⟨_, pss_cons (ps_set (i := 1) sc_l_leg.nd rfl (.inl rfl) (pe_cc C_l_pick hr (pa_cons (pv 0) (pa_cons pe_int pa_nil))))
      (pss_cons (ps_set (i := 2) sc_l_leg.nd rfl (.inl rfl) (pe_op op_add pe_int (pe_cc C_l_pick hr (pa_cons (pv 0) (pa_cons pe_int pa_nil)))))
      (pss_cons (ps_set (i := 3) sc_l_leg.nd rfl (.inl rfl) (pe_op op_add pe_int (pe_cc C_l_pick hr (pa_cons (pv 0) (pa_cons (pv 2) pa_nil)))))
      (pss_cons (ps_set (i := 4) sc_l_leg.nd rfl (.inl rfl) (pe_cc C_l_least_hours hr (pa_cons (pv 1) (pa_cons (pv 2) pa_nil))))
      (pss_cons (ps_set (i := 5) sc_l_leg.nd rfl (.inl rfl) (pe_cc C_l_least_hours hr (pa_cons (pv 1) (pa_cons (pv 3) pa_nil))))
      (pss_cons (ps_set (i := 6) sc_l_leg.nd rfl (.inl rfl) (pe_cc C_l_pick hr (pa_cons (pv 0) (pa_cons pe_int pa_nil))))
      (pss_cons (ps_set (i := 7) sc_l_leg.nd rfl (.inl rfl) (pe_op op_add (pv 4) (pe_cc C_l_pick hr (pa_cons (pv 0) (pa_cons (pe_op op_add (pe_op op_sub (pv 5) (pv 4)) pe_int) pa_nil)))))
      (pss_cons (ps_if (pt_cmpR op_eq (pv 6) pe_int (nomark _)) (pss_cons (ps_set (i := 7) sc_l_leg.nd rfl (.inl rfl) (pe_ix (ix_l (K := K)) (pe_lst (pa_cons (pe_callB (cl_max2 rfl) (by rfl) B.max (by decide +kernel) (pa_cons pe_int (pa_cons (pe_op op_sub (pv 4) pe_int) pa_nil))) (pa_cons (pe_op op_add (pv 5) pe_int) pa_nil))) (pe_cc C_l_pick hr (pa_cons (pv 0) (pa_cons pe_int pa_nil))) (fun _ _ => rfl)))
      (pss_nil)) (pss_nil))
      (pss_cons (ps_if (pt_cmpR op_eq (pv 6) pe_int (nomark _)) (pss_cons (ps_set (i := 7) sc_l_leg.nd rfl (.inl rfl) (pe_cc C_l_pick hr (pa_cons (pv 0) (pa_cons pe_int pa_nil))))
      (pss_nil)) (pss_nil))
      (pss_cons (ps_ret (pe_tup (pa_cons (pv 1) (pa_cons (pv 3) (pa_cons (pv 2) (pa_cons (pv 7) pa_nil)))))) pss_nil))))))))), ?_⟩
    have c0 : Chg (F0) H0 H0 := Chg.refl H0
    unfold Mi.m_l_leg at hm
    refine q_asg ?_
    refine w_call ?_
    refine w_args (va_cons (val_var rfl) (va_cons val_c va_nil)) ?_
    obtain ⟨q1, hq1, hm⟩ := Mi.bnd hm
    refine ⟨v0, F0, d0, (41 : Int), q1, rfl, r0, hq1, fun H3 c2 r0 => ?_⟩
    have c0 := c0.join c2 (fun a h => .inl (h))
    refine g_name (σ' := [some v0, some (.int q1.1), none, none, none, none, none, none]) rfl ?_
    refine q_asg ?_
    refine w_op ?_
    refine c_val val_c ?_
    refine w_call ?_
    refine w_args (va_cons (val_var rfl) (va_cons val_c va_nil)) ?_
    obtain ⟨q4, hq4, hm⟩ := Mi.bnd hm
    refine ⟨v0, F0, q1.2, (3 : Int), q4, rfl, r0, hq4, fun H6 c5 r0 => ?_⟩
    have c0 := c0.join c5 (fun a h => .inl (h))
    refine w_I0 ?_
    obtain ⟨top7, htop7, hm⟩ := Mi.letE hm
    refine g_nameE (congrArg V.int htop7) (σ' := [some v0, some (.int q1.1), some (.int top7), none, none, none, none, none]) rfl ?_
    refine q_asg ?_
    refine w_op ?_
    refine c_val val_c ?_
    refine w_call ?_
    refine w_args (va_cons (val_var rfl) (va_cons (val_var rfl) va_nil)) ?_
    obtain ⟨q8, hq8, hm⟩ := Mi.bnd hm
    refine ⟨v0, F0, q4.2, top7, q8, rfl, r0, hq8, fun H10 c9 r0 => ?_⟩
    have c0 := c0.join c9 (fun a h => .inl (h))
    refine w_I0 ?_
    obtain ⟨low11, hlow11, hm⟩ := Mi.letE hm
    refine g_nameE (congrArg V.int hlow11) (σ' := [some v0, some (.int q1.1), some (.int top7), some (.int low11), none, none, none, none]) rfl ?_
    refine q_asg ?_
    refine w_call ?_
    refine w_args (va_cons (val_var rfl) (va_cons (val_var rfl) va_nil)) ?_
    obtain ⟨q12, hq12, hm⟩ := Mi.bnd hm
    refine ⟨q1.1, top7, q12, rfl, hq12, fun H14 c13  => ?_⟩
    have r0 := Ty.ex r0 c13
    have c0 := c0.trans c13.none
    refine g_name (σ' := [some v0, some (.int q1.1), some (.int top7), some (.int low11), some (.int q12), none, none, none]) rfl ?_
    refine q_asg ?_
    refine w_call ?_
    refine w_args (va_cons (val_var rfl) (va_cons (val_var rfl) va_nil)) ?_
    obtain ⟨q15, hq15, hm⟩ := Mi.bnd hm
    refine ⟨q1.1, low11, q15, rfl, hq15, fun H17 c16  => ?_⟩
    have r0 := Ty.ex r0 c16
    have c0 := c0.trans c16.none
    refine g_name (σ' := [some v0, some (.int q1.1), some (.int top7), some (.int low11), some (.int q12), some (.int q15), none, none]) rfl ?_
    refine q_asg ?_
    refine w_call ?_
    refine w_args (va_cons (val_var rfl) (va_cons val_c va_nil)) ?_
    obtain ⟨q18, hq18, hm⟩ := Mi.bnd hm
    refine ⟨v0, F0, q8.2, (4 : Int), q18, rfl, r0, hq18, fun H20 c19 r0 => ?_⟩
    have c0 := c0.join c19 (fun a h => .inl (h))
    refine g_name (σ' := [some v0, some (.int q1.1), some (.int top7), some (.int low11), some (.int q12), some (.int q15), some (.int q18.1), none]) rfl ?_
    refine q_asg ?_
    refine w_op ?_
    refine c_val (val_var rfl) ?_
    refine w_call ?_
    refine w_args (va_cons (val_var rfl) (va_cons (val_add (val_sub (val_var rfl) (val_var rfl)) val_c) va_nil)) ?_
    obtain ⟨q21, hq21, hm⟩ := Mi.bnd hm
    refine ⟨v0, F0, q18.2, ((q15 - q12) + (1 : Int)), q21, rfl, r0, hq21, fun H23 c22 r0 => ?_⟩
    have c0 := c0.join c22 (fun a h => .inl (h))
    refine w_I0 ?_
    obtain ⟨hours24, hhours24, hm⟩ := Mi.letE hm
    refine g_nameE (congrArg V.int hhours24) (σ' := [some v0, some (.int q1.1), some (.int top7), some (.int low11), some (.int q12), some (.int q15), some (.int q18.1), some (.int hours24)]) rfl ?_
    obtain ⟨s25, hs25, hm⟩ := Mi.bnd hm
    refine s_join (R := fun σ' H' => σ' = [some v0, some (.int q1.1), some (.int top7), some (.int low11), some (.int q12), some (.int q15), some (.int q18.1), some (.int s25.2)] ∧ Chg (F0) H0 H' ∧ (yLst yInt).rep K H' F0 v0 s25.1) (fun nx kx => ?_) (fun σ' H' hj => ?_)
    ·
      refine s_if (ans_t (val_eqI (val_var rfl) val_c)) (fun hb => ?_) (fun hb => ?_)
      ·
        replace hs25 := Mi.ifT hb hs25
        refine q_asg ?_
        refine w_op ?_
        refine w_lst ?_
        refine w_args (va_cons (val_max2 val_c (val_sub (val_var rfl) val_c)) (va_cons (val_add (val_var rfl) val_c) va_nil)) ?_
        refine e_lst (K := K) (τ := yInt) (by exact Nat.le_of_ble_eq_true rfl) (.cons yInt_i (.cons yInt_i .nil)) fun p26 H30 np29 c27 r28 => ?_
        have d31 : Dj F0 [p26] := Ty.nin r0 np29
        have n32 : ∀ a ∈ [p26], H0 a = none := one_fresh (c0.dom p26 np29)
        have r0 := Ty.ex r0 c27
        have c0 := c0.trans c27.none
        refine w_call ?_
        refine w_args (va_cons (val_var rfl) (va_cons val_c va_nil)) ?_
        obtain ⟨q33, hq33, hs25⟩ := Mi.bnd hs25
        refine ⟨v0, F0, q21.2, (2 : Int), q33, rfl, r0, hq33, fun H35 c34 r0 => ?_⟩
        have r28 := Ty.chg r28 c34 d31.symm
        have c0 := c0.join c34 (fun a h => .inl (h))
        obtain ⟨x36, hx36, hs25⟩ := Mi.bnd hs25
        refine w_ixL r28 hx36 fun u37 r38 => ?_
        obtain ⟨_, rfl⟩ := r38
        refine g_name (σ' := [some v0, some (.int q1.1), some (.int top7), some (.int low11), some (.int q12), some (.int q15), some (.int q18.1), some (.int x36)]) rfl ?_
        refine w_nextJ ?_
        obtain rfl := Option.some.inj hs25
        exact kx _ _ ⟨rfl, c0, r0⟩
      ·
        replace hs25 := Mi.ifF hb hs25
        refine w_nextJ ?_
        obtain rfl := Option.some.inj hs25
        exact kx _ _ ⟨rfl, c0, r0⟩
    obtain ⟨rfl, c0, r0⟩ := hj
    obtain ⟨s39, hs39, hm⟩ := Mi.bnd hm
    refine s_join (R := fun σ' H' => σ' = [some v0, some (.int q1.1), some (.int top7), some (.int low11), some (.int q12), some (.int q15), some (.int q18.1), some (.int s39.2)] ∧ Chg (F0) H0 H' ∧ (yLst yInt).rep K H' F0 v0 s39.1) (fun nx kx => ?_) (fun σ' H' hj => ?_)
    ·
      refine s_if (ans_t (val_eqI (val_var rfl) val_c)) (fun hb => ?_) (fun hb => ?_)
      ·
        replace hs39 := Mi.ifT hb hs39
        refine q_asg ?_
        refine w_call ?_
        refine w_args (va_cons (val_var rfl) (va_cons val_c va_nil)) ?_
        obtain ⟨q40, hq40, hs39⟩ := Mi.bnd hs39
        refine ⟨v0, F0, s25.1, (46 : Int), q40, rfl, r0, hq40, fun H42 c41 r0 => ?_⟩
        have c0 := c0.join c41 (fun a h => .inl (h))
        refine g_name (σ' := [some v0, some (.int q1.1), some (.int top7), some (.int low11), some (.int q12), some (.int q15), some (.int q18.1), some (.int q40.1)]) rfl ?_
        refine w_nextJ ?_
        obtain rfl := Option.some.inj hs39
        exact kx _ _ ⟨rfl, c0, r0⟩
      ·
        replace hs39 := Mi.ifF hb hs39
        refine w_nextJ ?_
        obtain rfl := Option.some.inj hs39
        exact kx _ _ ⟨rfl, c0, r0⟩
    obtain ⟨rfl, c0, r0⟩ := hj
    refine q_ret ?_
    refine w_tup ?_
    refine w_args (va_cons (val_var rfl) (va_cons (val_var rfl) (va_cons (val_var rfl) (va_cons (val_var rfl) va_nil)))) ?_
    refine e_tup (K := K) (ty := (sCons yInt (sCons yInt (sCons yInt (sOne yInt))))) (F := []) (d := (q1.1, low11, top7, s39.2)) (by exact Nat.le_of_ble_eq_true rfl) ⟨_, _, _, _, rfl, rfl, yInt_i, ⟨_, _, _, _, rfl, rfl, yInt_i, ⟨_, _, _, _, rfl, rfl, yInt_i, ⟨_, rfl, yInt_i⟩⟩⟩⟩ fun p43 H47 np46 c44 r45 => ?_
    have r0 := Ty.ex r0 c44
    have c0 := c0.trans c44.none
    obtain rfl := Option.some.inj hm
    exact hQ _ _ c0 r45 r0
abbrev s_l_speeds_hold : Stmt := topS 11
theorem sc_l_speeds_hold : FnScope ["_law_told", "_law_leg_here", "_law_made", "_law_k", "_law_speed"] ["_law_told", "_law_leg_here"] (defScope s_l_speeds_hold) := ⟨rfl, rfl, rfl, by decide +kernel, rfl, by decide +kernel, by decide +kernel⟩
def sp_l_speeds_hold (K : PySem.W.Frag) : Sp := fun vs H Q _ => ∃ (v0 : V) (F0 : List Addr) (d0 : (List Int)) (v1 : V) (d1 : (Int × Int × Int × Int)) (r : Bool), vs = [v0, v1] ∧ (yLst yInt).rep K H F0 v0 d0 ∧ (yTup (sCons yInt (sCons yInt (sCons yInt (sOne yInt))))).rep K H [] v1 d1 ∧ Mi.m_l_speeds_hold d0 d1 = some r ∧ ∀ H', Chg ([]) H H' → Q (.bl r) H'
theorem ok_l_speeds_hold (B : Bi mg) (D : Dfn K mg "_law_speeds_hold" s_l_speeds_hold) (C_l_int : Cal P w K mg "_law_int" ["_law_x"] 1 (sp_l_int K)) : Cal P w K mg "_law_speeds_hold" ["_law_told", "_law_leg_here"] 2 (sp_l_speeds_hold K) := by
  obtain ⟨f, fd, F, g⟩ := D.ex
  refine ⟨f, fd, g, F.kp, bindsF F (fun _ _ _ _ _ _ us hl => match us, hl with | [_, _], _ => rfl), fun base => F.ok sc_l_speeds_hold (fun vs H Q E h => ?_) (fun cdv A outer s H0 vs Q E hr h => ?_)⟩
  · obtain ⟨v0, F0, d0, v1, d1, r, rfl, r0, r1, hm, hQ⟩ := h; rfl
  ·
    obtain ⟨v0, F0, d0, v1, d1, r, rfl, r0, r1, hm, hQ⟩ := h
    refine ⟨_, pss_cons (ps_if (PW.pt (pw_or (pt_not (pt_val (pe_callB (cl_isi (K := K)) (by rfl) B.isinstance (by decide +kernel) (pa_cons (pv 0) (pa_cons (pe_bltn (v := .ty "list") (by rfl) B.list (by decide +kernel) rfl) pa_nil))))) (pw_or1 (pt_cmpR op_ne (pe_callB (cl_len (K := K)) (by rfl) B.len PySem.boot_len (pa_cons (pv 0) pa_nil)) (pe_ix (ix_t (K := K)) (pv 1) pe_int (fun _ _ => rfl)) (nomark _))))) (pss_cons (ps_ret pe_bl) pss_nil) (pss_nil))
      (pss_cons (ps_set (i := 2) sc_l_speeds_hold.nd rfl (.inl rfl) pe_int)
      (pss_cons (ps_for PassesOwn.never rfl (pi_range1 (by rfl) B.range (pa_cons (pe_ix (ix_t (K := K)) (pv 1) pe_int (fun _ _ => rfl)) pa_nil)) (pg_name (i := 3) sc_l_speeds_hold.nd rfl (.inl rfl)) (pss_cons (ps_set (i := 4) sc_l_speeds_hold.nd rfl (.inl rfl) (pe_ix (ix_l (K := K)) (pv 0) (pv 3) (fun _ _ => rfl)))
      (pss_cons (ps_if (PW.pt (pw_or (pt_not (pt_val (pe_cc C_l_int hr (pa_cons (pv 4) pa_nil)))) (pw_or (pt_cmpR op_lt (pv 4) (pe_ix (ix_t (K := K)) (pv 1) pe_int (fun _ _ => rfl)) (nomark _)) (pw_or (pt_cmpR op_gt (pv 4) (pe_ix (ix_t (K := K)) (pv 1) pe_int (fun _ _ => rfl)) (nomark _)) (pw_or1 (pt_cmpR op_ge (pv 2) (pe_ix (ix_t (K := K)) (pv 1) pe_int (fun _ _ => rfl)) (nomark _))))))) (pss_cons (ps_ret pe_bl) pss_nil) (pss_nil))
      (pss_cons (ps_set (i := 2) sc_l_speeds_hold.nd rfl (.inl rfl) (pe_op op_add (pv 2) (pv 4)))
      (pss_cons (ps_if (PW.pt (pw_and (pt_cmpR op_gt (pv 4) (pe_ix (ix_t (K := K)) (pv 1) pe_int (fun _ _ => rfl)) (nomark _)) (pw_and1 (pt_cmpR op_ge (pe_op op_add (pe_op op_sub (pv 2) pe_int) (pe_op op_mul (pe_op op_sub (pe_op op_sub (pe_ix (ix_t (K := K)) (pv 1) pe_int (fun _ _ => rfl)) pe_int) (pv 3)) (pe_ix (ix_t (K := K)) (pv 1) pe_int (fun _ _ => rfl)))) (pe_ix (ix_t (K := K)) (pv 1) pe_int (fun _ _ => rfl)) (nomark _))))) (pss_cons (ps_ret pe_bl) pss_nil) (pss_nil))
      (pss_nil))))))
      (pss_cons (ps_ret (pe_cmpR op_ge (pv 2) (pe_ix (ix_t (K := K)) (pv 1) pe_int (fun _ _ => rfl)) (nomark _))) pss_nil))), ?_⟩
    have c0 : Chg ([] : List Addr) H0 H0 := Chg.refl H0
    unfold Mi.m_l_speeds_hold at hm
    obtain ⟨u2, F3, r4, su5, kx6, ku7⟩ := itm_tup (n := 3) (atS (atS (atS at1))) r1
    obtain ⟨rfl, rfl⟩ := r4
    refine q_if (ans_orB (ans_N (ans_B (val_isi (val_var rfl) (ty_lst r0) (n := "list") (m := "list") (b := true) (by decide +kernel)))) (fun _ => (ans_t (val_neI (val_lenL r0 (val_var rfl)) (ku7 (val_var rfl) val_c))))) (fun hb => ?_) (fun hb => ?_)
    ·
      replace hm := Mi.ifT hb hm
      refine q_ret ?_
      refine c_val val_c ?_
      obtain rfl := Option.some.inj hm
      exact hQ _ c0 
    replace hm := Mi.ifF hb hm
    refine w_fall ?_
    obtain ⟨made8, hmade8, hm⟩ := Mi.letE hm
    refine q_setE val_c (congrArg V.int hmade8) (σ' := [some v0, some v1, some (.int made8), none, none]) rfl ?_
    refine q_for ?_
    refine w_iRng1 ?_
    obtain ⟨u9, F10, r11, su12, kx13, ku14⟩ := itm_tup (n := 3) (atS (atS (atS at1))) r1
    obtain ⟨rfl, rfl⟩ := r11
    refine w_args (va_cons (ku14 (val_var rfl) val_c) va_nil) ?_
    obtain ⟨g15, hg15, hm⟩ := Mi.bnd hm
    obtain ⟨e16, he16, hm⟩ := Mi.bnd hm
    refine l_rng1 hg15 (fun i σ' H' => ∃ (s17 : Int) (y18 : Option V) (y19 : Option V), σ' = [some v0, some v1, some (.int s17), y18, y19] ∧ Chg ([] : List Addr) H0 H' ∧ (yLst yInt).rep K H' F0 v0 d0 ∧ (yTup (sCons yInt (sCons yInt (sCons yInt (sOne yInt))))).rep K H' [] v1 d1 ∧ Mi.forR (Mi.m_l_speeds_hold_b1 d0 d1) s17 (List.drop i g15) = some e16) ⟨made8, none, none, rfl, c0, r0, r1, he16⟩ (fun i22 x21 σ' H' hx20 hp => ?_) (fun σ' H' hp => ?_)
    ·
      obtain ⟨s17, y18, y19, rfl, c0, r0, r1, hle16⟩ := hp
      obtain ⟨o23, hbe16, hore16⟩ := Mi.forR_go hle16 hx20
      unfold Mi.m_l_speeds_hold_b1 at hbe16
      refine g_name (σ' := [some v0, some v1, some (.int s17), some (.int x21), y19]) rfl ?_
      obtain ⟨x24, hx24, hbe16⟩ := Mi.bnd hbe16
      obtain ⟨speed25, hspeed25, hbe16⟩ := Mi.letE hbe16
      refine q_setE (itm_LI r0 hx24 (val_var rfl) (val_var rfl)) (congrArg V.int hspeed25) (σ' := [some v0, some v1, some (.int s17), some (.int x21), some (.int speed25)]) rfl ?_
      refine q_ifS ?_
      obtain ⟨b26, hb26, hbe16⟩ := Mi.bnd hbe16
      refine j_tt b26 (R := fun H' => Chg ([] : List Addr) H0 H' ∧ (yLst yInt).rep K H' F0 v0 d0 ∧ (yTup (sCons yInt (sCons yInt (sCons yInt (sOne yInt))))).rep K H' [] v1 d1) (fun Q' kq => ?_) (fun H' hj => ?_)
      ·
        refine w_or ?_
        refine w_not ?_
        refine w_B ?_
        refine w_call ?_
        refine w_args (va_cons (val_var rfl) va_nil) ?_
        obtain ⟨q27, hq27, hb26⟩ := Mi.bnd hb26
        refine ⟨speed25, q27, rfl, hq27, fun H29 c28  => ?_⟩
        have r0 := Ty.ex r0 c28
        have r1 := Ty.fz r1 c28
        have c0 := c0.trans c28.none
        refine ⟨_, rfl, ?_⟩
        refine c_if (fun hb => ?_) (fun hb => ?_)
        ·
          replace hb26 := Mi.ifT hb hb26
          obtain rfl := Option.some.inj hb26
          exact kq _ ⟨c0, r0, r1⟩
        replace hb26 := Mi.ifF hb hb26
        refine w_or ?_
        obtain ⟨u30, F31, r32, su33, kx34, ku35⟩ := itm_tup (n := 1) (atS at0) r1
        obtain ⟨rfl, rfl⟩ := r32
        refine c_ans (ans_t (val_lt (val_var rfl) (ku35 (val_var rfl) val_c))) ?_
        refine c_if (fun hb => ?_) (fun hb => ?_)
        ·
          replace hb26 := Mi.ifT hb hb26
          obtain rfl := Option.some.inj hb26
          exact kq _ ⟨c0, r0, r1⟩
        replace hb26 := Mi.ifF hb hb26
        refine w_or ?_
        obtain ⟨u36, F37, r38, su39, kx40, ku41⟩ := itm_tup (n := 2) (atS (atS at0)) r1
        obtain ⟨rfl, rfl⟩ := r38
        refine c_ans (ans_t (val_gt (val_var rfl) (ku41 (val_var rfl) val_c))) ?_
        refine c_if (fun hb => ?_) (fun hb => ?_)
        ·
          replace hb26 := Mi.ifT hb hb26
          obtain rfl := Option.some.inj hb26
          exact kq _ ⟨c0, r0, r1⟩
        replace hb26 := Mi.ifF hb hb26
        obtain ⟨u42, F43, r44, su45, kx46, ku47⟩ := itm_tup (n := 0) at0 r1
        obtain ⟨rfl, rfl⟩ := r44
        refine c_ans (ans_t (val_ge (val_var rfl) (ku47 (val_var rfl) val_c))) ?_
        obtain rfl := Option.some.inj hb26
        exact kq _ ⟨c0, r0, r1⟩
      obtain ⟨c0, r0, r1⟩ := hj
      refine c_if (fun hb => ?_) (fun hb => ?_)
      ·
        replace hbe16 := Mi.ifT hb hbe16
        refine q_ret ?_
        refine c_val val_c ?_
        obtain rfl := Option.some.inj hbe16
        obtain rfl := Mi.or_inl hore16
        obtain rfl := Option.some.inj (Mi.orR_inl hm)
        exact hQ _ c0 
      replace hbe16 := Mi.ifF hb hbe16
      refine w_fall ?_
      obtain ⟨made48, hmade48, hbe16⟩ := Mi.letE hbe16
      refine q_setE (val_add (val_var rfl) (val_var rfl)) (congrArg V.int hmade48) (σ' := [some v0, some v1, some (.int made48), some (.int x21), some (.int speed25)]) rfl ?_
      obtain ⟨u49, F50, r51, su52, kx53, ku54⟩ := itm_tup (n := 1) (atS at0) r1
      obtain ⟨rfl, rfl⟩ := r51
      obtain ⟨b75, hb75, hbe16⟩ := Mi.bnd hbe16
      refine q_if (ans_andO (ans_t (val_gt (val_var rfl) (ku54 (val_var rfl) val_c))) hb75 (fun hs55 => by (obtain ⟨u56, F57, r58, su59, kx60, ku61⟩ := itm_tup (n := 3) (atS (atS (atS at1))) r1; obtain ⟨rfl, rfl⟩ := r58; obtain ⟨u62, F63, r64, su65, kx66, ku67⟩ := itm_tup (n := 2) (atS (atS at0)) r1; obtain ⟨rfl, rfl⟩ := r64; obtain ⟨x68, hx68, hs55⟩ := Mi.bnd hs55; obtain ⟨u69, F70, r71, su72, kx73, ku74⟩ := itm_tup (n := 0) at0 r1; obtain ⟨rfl, rfl⟩ := r71; cases hs55; exact (ans_t (val_ge (val_add (val_sub (val_var rfl) val_c) (val_mul (val_sub (val_sub (ku61 (val_var rfl) val_c) val_c) (val_var rfl)) (ku67 (val_var rfl) val_c) hx68)) (ku74 (val_var rfl) val_c)))))) (fun hb => ?_) (fun hb => ?_)
      ·
        replace hbe16 := Mi.ifT hb hbe16
        refine q_ret ?_
        refine c_val val_c ?_
        obtain rfl := Option.some.inj hbe16
        obtain rfl := Mi.or_inl hore16
        obtain rfl := Option.some.inj (Mi.orR_inl hm)
        exact hQ _ c0 
      replace hbe16 := Mi.ifF hb hbe16
      refine w_fall ?_
      refine w_nextJ ?_
      obtain rfl := Option.some.inj hbe16
      replace hore16 := Mi.or_inr hore16
      exact ⟨_, (some (.int x21)), (some (.int speed25)), rfl, c0, r0, r1, hore16⟩
    obtain ⟨s17, y18, y19, rfl, c0, r0, r1, hle16⟩ := hp
    obtain rfl := Mi.forR_end hle16
    replace hm := Mi.orR_inr hm
    refine q_ret ?_
    obtain ⟨u76, F77, r78, su79, kx80, ku81⟩ := itm_tup (n := 0) at0 r1
    obtain ⟨rfl, rfl⟩ := r78
    refine c_val (val_ge (val_var rfl) (ku81 (val_var rfl) val_c)) ?_
    obtain rfl := Option.some.inj hm
    exact hQ _ c0 
abbrev s_l_leg_holds : Stmt := topS 12
theorem sc_l_leg_holds : FnScope ["_law_leg_here", "_law_least", "_law_most", "_law_bounds", "_law_told"] ["_law_leg_here"] (defScope s_l_leg_holds) := ⟨rfl, rfl, rfl, by decide +kernel, rfl, by decide +kernel, by decide +kernel⟩
def sp_l_leg_holds (K : PySem.W.Frag) : Sp := fun vs H Q _ => ∃ (v0 : V) (d0 : (Int × Int × Int × Int)) (r : Bool), vs = [v0] ∧ (yTup (sCons yInt (sCons yInt (sCons yInt (sOne yInt))))).rep K H [] v0 d0 ∧ Mi.m_l_leg_holds d0 = some r ∧ ∀ H', Chg ([]) H H' → Q (.bl r) H'
theorem ok_l_leg_holds (B : Bi mg) (D : Dfn K mg "_law_leg_holds" s_l_leg_holds) (C_leg_hours : Cal P w K mg "leg_hours" ["length", "slow", "fast"] 2 (sp_leg_hours K)) (C_leg_speeds : Cal P w K mg "leg_speeds" ["length", "slow", "fast", "hours"] 3 (sp_leg_speeds K)) (C_l_int : Cal P w K mg "_law_int" ["_law_x"] 1 (sp_l_int K)) (C_l_least_hours : Cal P w K mg "_law_least_hours" ["_law_length", "_law_speed"] 1 (sp_l_least_hours K)) (C_l_speeds_hold : Cal P w K mg "_law_speeds_hold" ["_law_told", "_law_leg_here"] 2 (sp_l_speeds_hold K)) : Cal P w K mg "_law_leg_holds" ["_law_leg_here"] 4 (sp_l_leg_holds K) := by
  obtain ⟨f, fd, F, g⟩ := D.ex
  refine ⟨f, fd, g, F.kp, bindsF F (fun _ _ _ _ _ _ us hl => match us, hl with | [_], _ => rfl), fun base => F.ok sc_l_leg_holds (fun vs H Q E h => ?_) (fun cdv A outer s H0 vs Q E hr h => ?_)⟩
  · obtain ⟨v0, d0, r, rfl, r0, hm, hQ⟩ := h; rfl
  ·
    obtain ⟨v0, d0, r, rfl, r0, hm, hQ⟩ := h
    refine ⟨_, pss_cons (ps_set (i := 1) sc_l_leg_holds.nd rfl (.inl rfl) (pe_cc C_l_least_hours hr (pa_cons (pe_ix (ix_t (K := K)) (pv 0) pe_int (fun _ _ => rfl)) (pa_cons (pe_ix (ix_t (K := K)) (pv 0) pe_int (fun _ _ => rfl)) pa_nil))))
      (pss_cons (ps_set (i := 2) sc_l_leg_holds.nd rfl (.inl rfl) (pe_cc C_l_least_hours hr (pa_cons (pe_ix (ix_t (K := K)) (pv 0) pe_int (fun _ _ => rfl)) (pa_cons (pe_ix (ix_t (K := K)) (pv 0) pe_int (fun _ _ => rfl)) pa_nil))))
      (pss_cons (ps_set (i := 3) sc_l_leg_holds.nd rfl (.inl rfl) (pe_cc C_leg_hours hr (pa_cons (pe_ix (ix_t (K := K)) (pv 0) pe_int (fun _ _ => rfl)) (pa_cons (pe_ix (ix_t (K := K)) (pv 0) pe_int (fun _ _ => rfl)) (pa_cons (pe_ix (ix_t (K := K)) (pv 0) pe_int (fun _ _ => rfl)) pa_nil)))))
      (pss_cons (ps_if (PW.pt (pw_or (pt_not (pt_val (pe_callB (cl_isi (K := K)) (by rfl) B.isinstance (by decide +kernel) (pa_cons (pv 3) (pa_cons (pe_bltn (v := .ty "tuple") (by rfl) B.tuple (by decide +kernel) rfl) pa_nil))))) (pw_or (pt_cmpR op_ne (pe_callB (cl_len (K := K)) (by rfl) B.len PySem.boot_len (pa_cons (pv 3) pa_nil)) pe_int (nomark _)) (pw_or (pt_not (pt_val (pe_cc C_l_int hr (pa_cons (pe_ix (ix_t (K := K)) (pv 3) pe_int (fun _ _ => rfl)) pa_nil)))) (pw_or1 (pt_not (pt_val (pe_cc C_l_int hr (pa_cons (pe_ix (ix_t (K := K)) (pv 3) pe_int (fun _ _ => rfl)) pa_nil))))))))) (pss_cons (ps_ret pe_bl) pss_nil) (pss_nil))
      (pss_cons (ps_if (PW.pt (pw_or (pt_cmpR op_ne (pe_ix (ix_t (K := K)) (pv 3) pe_int (fun _ _ => rfl)) (pv 1) (nomark _)) (pw_or1 (pt_cmpR op_ne (pe_ix (ix_t (K := K)) (pv 3) pe_int (fun _ _ => rfl)) (pv 2) (nomark _))))) (pss_cons (ps_ret pe_bl) pss_nil) (pss_nil))
      (pss_cons (ps_set (i := 4) sc_l_leg_holds.nd rfl (.inl rfl) (pe_cc C_leg_speeds hr (pa_cons (pe_ix (ix_t (K := K)) (pv 0) pe_int (fun _ _ => rfl)) (pa_cons (pe_ix (ix_t (K := K)) (pv 0) pe_int (fun _ _ => rfl)) (pa_cons (pe_ix (ix_t (K := K)) (pv 0) pe_int (fun _ _ => rfl)) (pa_cons (pe_ix (ix_t (K := K)) (pv 0) pe_int (fun _ _ => rfl)) pa_nil))))))
      (pss_cons (ps_if (PW.pt (pw_or (pt_cmpR op_lt (pe_ix (ix_t (K := K)) (pv 0) pe_int (fun _ _ => rfl)) (pv 1) (nomark _)) (pw_or1 (pt_cmpR op_gt (pe_ix (ix_t (K := K)) (pv 0) pe_int (fun _ _ => rfl)) (pv 2) (nomark _))))) (pss_cons (ps_ret (pe_cmpR op_isN1 (pv 4) pe_non (nomark _))) pss_nil) (pss_nil))
      (pss_cons (ps_if (pt_not (pt_val (pe_cc C_l_speeds_hold hr (pa_cons (pv 4) (pa_cons (pv 0) pa_nil))))) (pss_cons (ps_ret pe_bl) pss_nil) (pss_nil))
      (pss_cons (ps_expr (pe_bm PySem.F.plainAttrs_list PySem.F.slot_list_append PySem.F.type_list_append mt_append (pv 4) (pa_cons pe_int pa_nil)))
      (pss_cons (ps_ret pe_bl) pss_nil))))))))), ?_⟩
    have c0 : Chg ([] : List Addr) H0 H0 := Chg.refl H0
    unfold Mi.m_l_leg_holds at hm
    refine q_asg ?_
    refine w_call ?_
    obtain ⟨u1, F2, r3, su4, kx5, ku6⟩ := itm_tup (n := 0) at0 r0
    obtain ⟨rfl, rfl⟩ := r3
    obtain ⟨u7, F8, r9, su10, kx11, ku12⟩ := itm_tup (n := 2) (atS (atS at0)) r0
    obtain ⟨rfl, rfl⟩ := r9
    refine w_args (va_cons (ku6 (val_var rfl) val_c) (va_cons (ku12 (val_var rfl) val_c) va_nil)) ?_
    obtain ⟨q13, hq13, hm⟩ := Mi.bnd hm
    refine ⟨d0.1, d0.2.2.1, q13, rfl, hq13, fun H15 c14  => ?_⟩
    have r0 := Ty.fz r0 c14
    have c0 := c0.trans c14.none
    refine g_name (σ' := [some v0, some (.int q13), none, none, none]) rfl ?_
    refine q_asg ?_
    refine w_call ?_
    obtain ⟨u16, F17, r18, su19, kx20, ku21⟩ := itm_tup (n := 0) at0 r0
    obtain ⟨rfl, rfl⟩ := r18
    obtain ⟨u22, F23, r24, su25, kx26, ku27⟩ := itm_tup (n := 1) (atS at0) r0
    obtain ⟨rfl, rfl⟩ := r24
    refine w_args (va_cons (ku21 (val_var rfl) val_c) (va_cons (ku27 (val_var rfl) val_c) va_nil)) ?_
    obtain ⟨q28, hq28, hm⟩ := Mi.bnd hm
    refine ⟨d0.1, d0.2.1, q28, rfl, hq28, fun H30 c29  => ?_⟩
    have r0 := Ty.fz r0 c29
    have c0 := c0.trans c29.none
    refine g_name (σ' := [some v0, some (.int q13), some (.int q28), none, none]) rfl ?_
    refine q_asg ?_
    refine w_call ?_
    obtain ⟨u31, F32, r33, su34, kx35, ku36⟩ := itm_tup (n := 0) at0 r0
    obtain ⟨rfl, rfl⟩ := r33
    obtain ⟨u37, F38, r39, su40, kx41, ku42⟩ := itm_tup (n := 1) (atS at0) r0
    obtain ⟨rfl, rfl⟩ := r39
    obtain ⟨u43, F44, r45, su46, kx47, ku48⟩ := itm_tup (n := 2) (atS (atS at0)) r0
    obtain ⟨rfl, rfl⟩ := r45
    refine w_args (va_cons (ku36 (val_var rfl) val_c) (va_cons (ku42 (val_var rfl) val_c) (va_cons (ku48 (val_var rfl) val_c) va_nil))) ?_
    obtain ⟨q49, hq49, hm⟩ := Mi.bnd hm
    refine ⟨d0.1, d0.2.1, d0.2.2.1, q49, rfl, hq49, fun v52 H51 c50 r53  => ?_⟩
    have r0 := Ty.fz r0 c50
    have c0 := c0.trans c50.none
    refine g_name (σ' := [some v0, some (.int q13), some (.int q28), some v52, none]) rfl ?_
    refine q_ifS ?_
    obtain ⟨b54, hb54, hm⟩ := Mi.bnd hm
    refine j_tt b54 (R := fun H' => Chg ([] : List Addr) H0 H' ∧ (yTup (sCons yInt (sCons yInt (sCons yInt (sOne yInt))))).rep K H' [] v0 d0 ∧ (yTup (sCons yInt (sOne yInt))).rep K H' [] v52 q49) (fun Q' kq => ?_) (fun H' hj => ?_)
    ·
      refine w_or ?_
      refine c_ans (ans_N (ans_B (val_isi (val_var rfl) (ty_tup r53) (n := "tuple") (m := "tuple") (b := true) (by decide +kernel)))) ?_
      refine c_if (fun hb => ?_) (fun hb => ?_)
      ·
        replace hb54 := Mi.ifT hb hb54
        obtain rfl := Option.some.inj hb54
        exact kq _ ⟨c0, r0, r53⟩
      replace hb54 := Mi.ifF hb hb54
      refine w_or ?_
      refine c_ans (ans_t (val_neI (val_lenU (n := 2) (lens_cons lens_one) r53 (val_var rfl)) val_c)) ?_
      refine c_if (fun hb => ?_) (fun hb => ?_)
      ·
        replace hb54 := Mi.ifT hb hb54
        obtain rfl := Option.some.inj hb54
        exact kq _ ⟨c0, r0, r53⟩
      replace hb54 := Mi.ifF hb hb54
      refine w_or ?_
      refine w_not ?_
      refine w_B ?_
      refine w_call ?_
      obtain ⟨u55, F56, r57, su58, kx59, ku60⟩ := itm_tup (n := 0) at0 r53
      obtain ⟨rfl, rfl⟩ := r57
      refine w_args (va_cons (ku60 (val_var rfl) val_c) va_nil) ?_
      obtain ⟨q61, hq61, hb54⟩ := Mi.bnd hb54
      refine ⟨q49.1, q61, rfl, hq61, fun H63 c62  => ?_⟩
      have r0 := Ty.fz r0 c62
      have r53 := Ty.fz r53 c62
      have c0 := c0.trans c62.none
      refine ⟨_, rfl, ?_⟩
      refine c_if (fun hb => ?_) (fun hb => ?_)
      ·
        replace hb54 := Mi.ifT hb hb54
        obtain rfl := Option.some.inj hb54
        exact kq _ ⟨c0, r0, r53⟩
      replace hb54 := Mi.ifF hb hb54
      refine w_not ?_
      refine w_B ?_
      refine w_call ?_
      obtain ⟨u64, F65, r66, su67, kx68, ku69⟩ := itm_tup (n := 1) (atS at1) r53
      obtain ⟨rfl, rfl⟩ := r66
      refine w_args (va_cons (ku69 (val_var rfl) val_c) va_nil) ?_
      obtain ⟨q70, hq70, hb54⟩ := Mi.bnd hb54
      refine ⟨q49.2, q70, rfl, hq70, fun H72 c71  => ?_⟩
      have r0 := Ty.fz r0 c71
      have r53 := Ty.fz r53 c71
      have c0 := c0.trans c71.none
      refine ⟨_, rfl, ?_⟩
      obtain rfl := Option.some.inj hb54
      exact kq _ ⟨c0, r0, r53⟩
    obtain ⟨c0, r0, r53⟩ := hj
    refine c_if (fun hb => ?_) (fun hb => ?_)
    ·
      replace hm := Mi.ifT hb hm
      refine q_ret ?_
      refine c_val val_c ?_
      obtain rfl := Option.some.inj hm
      exact hQ _ c0 
    replace hm := Mi.ifF hb hm
    refine w_fall ?_
    obtain ⟨u73, F74, r75, su76, kx77, ku78⟩ := itm_tup (n := 0) at0 r53
    obtain ⟨rfl, rfl⟩ := r75
    obtain ⟨u80, F81, r82, su83, kx84, ku85⟩ := itm_tup (n := 1) (atS at1) r53
    obtain ⟨rfl, rfl⟩ := r82
    refine q_if (ans_orB (ans_t (val_neI (ku78 (val_var rfl) val_c) (val_var rfl))) (fun _ => (ans_t (val_neI (ku85 (val_var rfl) val_c) (val_var rfl))))) (fun hb => ?_) (fun hb => ?_)
    ·
      replace hm := Mi.ifT hb hm
      refine q_ret ?_
      refine c_val val_c ?_
      obtain rfl := Option.some.inj hm
      exact hQ _ c0 
    replace hm := Mi.ifF hb hm
    refine w_fall ?_
    refine q_asg ?_
    refine w_call ?_
    obtain ⟨u86, F87, r88, su89, kx90, ku91⟩ := itm_tup (n := 0) at0 r0
    obtain ⟨rfl, rfl⟩ := r88
    obtain ⟨u92, F93, r94, su95, kx96, ku97⟩ := itm_tup (n := 1) (atS at0) r0
    obtain ⟨rfl, rfl⟩ := r94
    obtain ⟨u98, F99, r100, su101, kx102, ku103⟩ := itm_tup (n := 2) (atS (atS at0)) r0
    obtain ⟨rfl, rfl⟩ := r100
    obtain ⟨u104, F105, r106, su107, kx108, ku109⟩ := itm_tup (n := 3) (atS (atS (atS at1))) r0
    obtain ⟨rfl, rfl⟩ := r106
    refine w_args (va_cons (ku91 (val_var rfl) val_c) (va_cons (ku97 (val_var rfl) val_c) (va_cons (ku103 (val_var rfl) val_c) (va_cons (ku109 (val_var rfl) val_c) va_nil)))) ?_
    obtain ⟨q110, hq110, hm⟩ := Mi.bnd hm
    refine ⟨d0.1, d0.2.1, d0.2.2.1, d0.2.2.2, q110, rfl, hq110, fun v113 H112 F115 c111 r114 fr116  => ?_⟩
    have n117 : ∀ a ∈ F115, H0 a = none := fun a h => c0.dom a (fr116 a h)
    have r0 := Ty.fz r0 c111
    have r53 := Ty.fz r53 c111
    have c0 := c0.trans c111.none
    refine g_name (σ' := [some v0, some (.int q13), some (.int q28), some v52, some v113]) rfl ?_
    obtain ⟨u118, F119, r120, su121, kx122, ku123⟩ := itm_tup (n := 3) (atS (atS (atS at1))) r0
    obtain ⟨rfl, rfl⟩ := r120
    obtain ⟨u125, F126, r127, su128, kx129, ku130⟩ := itm_tup (n := 3) (atS (atS (atS at1))) r0
    obtain ⟨rfl, rfl⟩ := r127
    refine q_if (ans_orB (ans_t (val_lt (ku123 (val_var rfl) val_c) (val_var rfl))) (fun _ => (ans_t (val_gt (ku130 (val_var rfl) val_c) (val_var rfl))))) (fun hb => ?_) (fun hb => ?_)
    ·
      replace hm := Mi.ifT hb hm
      refine q_ret ?_
      refine c_val (val_isN r114 (val_var rfl)) ?_
      obtain rfl := Option.some.inj hm
      exact hQ _ c0 
    replace hm := Mi.ifF hb hm
    refine w_fall ?_
    refine q_ifS ?_
    refine w_not ?_
    refine w_B ?_
    refine w_call ?_
    refine w_args (va_cons (val_var rfl) (va_cons (val_var rfl) va_nil)) ?_
    obtain ⟨x131, hx131, hm⟩ := Mi.bnd hm
    have r132 := opt_some r114 hx131
    obtain ⟨q133, hq133, hm⟩ := Mi.bnd hm
    refine ⟨v113, F115, x131, v0, d0, q133, rfl, r132, r0, hq133, fun H135 c134  => ?_⟩
    have r0 := Ty.fz r0 c134
    have r53 := Ty.fz r53 c134
    have r132 := Ty.ex r132 c134
    have c0 := c0.trans c134.none
    refine ⟨_, rfl, ?_⟩
    refine c_if (fun hb => ?_) (fun hb => ?_)
    ·
      replace hm := Mi.ifT hb hm
      refine q_ret ?_
      refine c_val val_c ?_
      obtain rfl := Option.some.inj hm
      exact hQ _ c0 
    replace hm := Mi.ifF hb hm
    refine w_fall ?_
    refine q_drop (w_bm (c_val (val_var rfl) ⟨tyv_lst r132, ?_⟩))
    refine w_args (va_cons val_c va_nil) ?_
    obtain ⟨x136, hx136, hm⟩ := Mi.bnd hm
    refine m_app r132 yInt_i hx136 fun H138 c137 r132 => ?_
    have r0 := Ty.fz r0 c137
    have r53 := Ty.fz r53 c137
    have c0 := c0.join c137 (fun a h => .inr (n117 a h))
    refine q_ret ?_
    refine c_val val_c ?_
    obtain rfl := Option.some.inj hm
    exact hQ _ c0 
abbrev s_law : Stmt := topS 13
theorem sc_law : FnScope ["_law_script", "_law_legs", "_law_k"] ["_law_script"] (defScope s_law) := ⟨rfl, rfl, rfl, by decide +kernel, rfl, by decide +kernel, by decide +kernel⟩
def sp_law (K : PySem.W.Frag) : Sp := fun vs H Q _ => ∃ (v0 : V) (d0 : (List Int)) (r : Bool), vs = [v0] ∧ yScr.rep K H [] v0 d0 ∧ Mi.m_law d0 = some r ∧ ∀ H', Chg ([]) H H' → Q (.bl r) H'
theorem ok_law (B : Bi mg) (D : Dfn K mg "law" s_law) (C_l_hand : Cal P w K mg "_law_hand" ["_law_script", "_law_k"] 1 (sp_l_hand K)) (C_l_leg : Cal P w K mg "_law_leg" ["_law_hand_here"] 2 (sp_l_leg K)) (C_l_leg_holds : Cal P w K mg "_law_leg_holds" ["_law_leg_here"] 4 (sp_l_leg_holds K)) : Cal P w K mg "law" ["_law_script"] 5 (sp_law K) := by
  obtain ⟨f, fd, F, g⟩ := D.ex
  refine ⟨f, fd, g, F.kp, bindsF F (fun _ _ _ _ _ _ us hl => match us, hl with | [_], _ => rfl), fun base => F.ok sc_law (fun vs H Q E h => ?_) (fun cdv A outer s H0 vs Q E hr h => ?_)⟩
  · obtain ⟨v0, d0, r, rfl, r0, hm, hQ⟩ := h; rfl
  ·
    obtain ⟨v0, d0, r, rfl, r0, hm, hQ⟩ := h
    refine ⟨_, pss_cons (ps_set (i := 1) sc_law.nd rfl (.inl rfl) (pe_lst (pa_cons (pe_cc C_l_leg hr (pa_cons (pe_cc C_l_hand hr (pa_cons (pv 0) (pa_cons pe_int pa_nil))) pa_nil)) (pa_cons (pe_cc C_l_leg hr (pa_cons (pe_cc C_l_hand hr (pa_cons (pv 0) (pa_cons pe_int pa_nil))) pa_nil)) pa_nil))))
      (pss_cons (ps_for PassesOwn.never rfl (pi_list (pe_lst (pa_cons pe_int (pa_cons pe_int (pa_cons pe_int pa_nil))))) (pg_name (i := 2) sc_law.nd rfl (.inl rfl)) (pss_cons (ps_if (pt_not (pt_val (pe_cc C_l_leg_holds hr (pa_cons (pe_ix (ix_l (K := K)) (pv 1) (pv 2) (fun _ _ => rfl)) pa_nil)))) (pss_cons (ps_ret pe_bl) pss_nil) (pss_nil))
      (pss_nil)))
      (pss_cons (ps_ret pe_bl) pss_nil)), ?_⟩
    have c0 : Chg ([] : List Addr) H0 H0 := Chg.refl H0
    unfold Mi.m_law at hm
    refine q_asg ?_
    refine w_lst ?_
    refine w_cons ?_
    refine w_call ?_
    refine w_cons ?_
    refine w_call ?_
    refine w_args (va_cons (val_var rfl) (va_cons val_c va_nil)) ?_
    obtain ⟨q1, hq1, hm⟩ := Mi.bnd hm
    refine ⟨v0, d0, (0 : Int), q1, rfl, r0, hq1, fun v4 H3 F6 c2 r5 fr7  => ?_⟩
    have n8 : ∀ a ∈ F6, H0 a = none := fun a h => c0.dom a (fr7 a h)
    have r0 := Ty.fz r0 c2
    have c0 := c0.trans c2.none
    refine w_nil ?_
    obtain ⟨q9, hq9, hm⟩ := Mi.bnd hm
    refine ⟨v4, F6, q1, q9, rfl, r5, hq9, fun v12 H11 c10 r13 r5 => ?_⟩
    have r0 := Ty.fz r0 c10
    have c0 := c0.join c10 (fun a h => .inr (n8 a h))
    refine w_cons ?_
    refine w_call ?_
    refine w_cons ?_
    refine w_call ?_
    refine w_args (va_cons (val_var rfl) (va_cons val_c va_nil)) ?_
    obtain ⟨q14, hq14, hm⟩ := Mi.bnd hm
    refine ⟨v0, d0, (1 : Int), q14, rfl, r0, hq14, fun v17 H16 F19 c15 r18 fr20  => ?_⟩
    have n21 : ∀ a ∈ F19, H0 a = none := fun a h => c0.dom a (fr20 a h)
    have r0 := Ty.fz r0 c15
    have r13 := Ty.fz r13 c15
    have c0 := c0.trans c15.none
    refine w_nil ?_
    obtain ⟨q22, hq22, hm⟩ := Mi.bnd hm
    refine ⟨v17, F19, q14, q22, rfl, r18, hq22, fun v25 H24 c23 r26 r18 => ?_⟩
    have r0 := Ty.fz r0 c23
    have r13 := Ty.fz r13 c23
    have c0 := c0.join c23 (fun a h => .inr (n21 a h))
    refine w_nil ?_
    refine e_lst (K := K) (τ := (yTup (sCons yInt (sCons yInt (sCons yInt (sOne yInt)))))) (by exact Nat.le_of_ble_eq_true rfl) (.cons r13 (.cons r26 .nil)) fun p27 H31 np30 c28 r29 => ?_
    have n32 : ∀ a ∈ [p27], H0 a = none := one_fresh (c0.dom p27 np30)
    have r0 := Ty.fz r0 c28
    have r13 := Ty.fz r13 c28
    have r26 := Ty.fz r26 c28
    have c0 := c0.trans c28.none
    refine g_name (σ' := [some v0, some (.ref p27), none]) rfl ?_
    refine q_for ?_
    refine w_iList ?_
    refine w_lst ?_
    refine w_args (va_cons val_c (va_cons val_c (va_cons val_c va_nil))) ?_
    refine e_lst (K := K) (τ := yInt) (by exact Nat.le_of_ble_eq_true rfl) (.cons yInt_i (.cons yInt_i (.cons yInt_i .nil))) fun p33 H37 np36 c34 r35 => ?_
    have d38 : Dj [p27] [p33] := Ty.nin r29 np36
    have n39 : ∀ a ∈ [p33], H0 a = none := one_fresh (c0.dom p33 np36)
    have r0 := Ty.fz r0 c34
    have r29 := Ty.ex r29 c34
    have c0 := c0.trans c34.none
    obtain ⟨e40, he40, hm⟩ := Mi.bnd hm
    refine l_lst r35 (fun i σ' H' => ∃ (s41 : Unit) (y42 : Option V), σ' = [some v0, some (.ref p27), y42] ∧ Chg ([] : List Addr) H0 H' ∧ yScr.rep K H' [] v0 d0 ∧ (yLst (yTup (sCons yInt (sCons yInt (sCons yInt (sOne yInt)))))).rep K H' [p27] (.ref p27) [q9.1, q22.1] ∧ (yLst yInt).rep K H' [p33] (.ref p33) [(0 : Int), (1 : Int), (0 : Int)] ∧ Mi.forR (Mi.m_law_b1 q9 q22) s41 (List.drop i [(0 : Int), (1 : Int), (0 : Int)]) = some e40) ⟨(), none, rfl, c0, r0, r29, r35, he40⟩ (fun i σ' H' hp => by obtain ⟨s41, y42, rfl, c0, r0, r29, r35, _⟩ := hp; exact r35) (fun i45 x44 u46 σ' H' hx43 r47 hp => ?_) (fun σ' H' hp => ?_)
    ·
      obtain ⟨s41, y42, rfl, c0, r0, r29, r35, hle40⟩ := hp
      obtain ⟨o48, hbe40, hore40⟩ := Mi.forR_go hle40 hx43
      unfold Mi.m_law_b1 at hbe40
      obtain ⟨_, rfl⟩ := r47
      refine g_name (σ' := [some v0, some (.ref p27), some (.int x44)]) rfl ?_
      refine q_ifS ?_
      refine w_not ?_
      refine w_B ?_
      refine w_call ?_
      obtain ⟨x49, hx49, hbe40⟩ := Mi.bnd hbe40
      obtain ⟨u50, r51, ku52⟩ := itm_L r29 hx49
      refine w_args (va_cons (ku52 (val_var rfl) (val_var rfl)) va_nil) ?_
      obtain ⟨q53, hq53, hbe40⟩ := Mi.bnd hbe40
      refine ⟨u50, x49, q53, rfl, r51, hq53, fun H55 c54  => ?_⟩
      have r0 := Ty.fz r0 c54
      have r29 := Ty.ex r29 c54
      have r35 := Ty.ex r35 c54
      have c0 := c0.trans c54.none
      refine ⟨_, rfl, ?_⟩
      refine c_if (fun hb => ?_) (fun hb => ?_)
      ·
        replace hbe40 := Mi.ifT hb hbe40
        refine q_ret ?_
        refine c_val val_c ?_
        obtain rfl := Option.some.inj hbe40
        obtain rfl := Mi.or_inl hore40
        obtain rfl := Option.some.inj (Mi.orR_inl hm)
        exact hQ _ c0 
      replace hbe40 := Mi.ifF hb hbe40
      refine w_fall ?_
      refine w_nextJ ?_
      obtain rfl := Option.some.inj hbe40
      replace hore40 := Mi.or_inr hore40
      exact ⟨_, (some (.int x44)), rfl, c0, r0, r29, r35, hore40⟩
    obtain ⟨s41, y42, rfl, c0, r0, r29, r35, hle40⟩ := hp
    obtain rfl := Mi.forR_end hle40
    replace hm := Mi.orR_inr hm
    refine q_ret ?_
    refine c_val val_c ?_
    obtain rfl := Option.some.inj hm
    exact hQ _ c0 
end
end G

set_option maxHeartbeats 0
namespace G
open PySem PySem.Spec PyProof.Rows L2
theorem fun_of {K : PySem.W.Frag} {x q : Str} {st : Stmt} {f : Addr} {fd : FuncData} (F : FunD K x q (defArgs st) (defBody st) (defScope st) [] [] f fd) : Fun K x q st f fd := by
  obtain ⟨oc, od, dV, kV, doc, pm, an, cdv, ct, osl, e, lk, hcd, hd, _⟩ := F.ex
  rcases hd with ⟨_, rfl⟩ | ⟨z, _⟩
  · exact ⟨⟨oc, od, kV, doc, pm, an, cdv, ct, osl, e, lk, hcd⟩, F.kp⟩
  · exact absurd rfl z
def dOf (x : Str) (i : Nat) : He.DefD := ⟨(x, none), x, x, defArgs (topS i), defBody (topS i), defScope (topS i), [], []⟩
def fnL : List He.DefD := [dOf "round_up" 1, dOf "leg_hours" 3, dOf "leg_speeds" 4, dOf "_law_hand" 6, dOf "_law_pick" 7, dOf "_law_int" 8, dOf "_law_least_hours" 9, dOf "_law_leg" 10, dOf "_law_speeds_hold" 11, dOf "_law_leg_holds" 12, dOf "law" 13]
def faL : List He.Fa := [.glo "round_up", .glo "leg_hours", .glo "leg_speeds", .glo "_law_hand", .glo "_law_pick", .glo "_law_int", .glo "_law_least_hours", .glo "_law_leg", .glo "_law_speeds_hold", .glo "_law_leg_holds", .glo "law", .free "len", .free "range", .free "int", .free "bool", .free "isinstance", .free "max", .free "min", .free "list", .free "tuple", .free "sorted", .free "set", .free "enumerate", .free "zip", .free "reversed", .free "sum", .free "any", .free "all", .free "str"]
abbrev R : PySem.W.OpenRow := PySem.W.OpenLaw.row PySem.Challenge.rw_fogfleet_k37_hours_of_a_leg
abbrev hk : PySem.W.Hook := He.hookD 4 faL fnL
def ob (s : PySem.W.SharedT) : He.AlD := He.obsDG 4 faL fnL (HandSHeadRun.getT s)
theorem ob_eq (s : PySem.W.SharedT) : ob s = hk.obs s.abs := He.obsDG_eq (HandSHeadRun.getT_eq s)
def looseL : List Str := (["round_up", "leg_hours", "leg_speeds", "_law_hand", "_law_pick", "_law_int", "_law_least_hours", "_law_leg", "_law_speeds_hold", "_law_leg_holds"] : List Str)
theorem run (w : World) : HandSHeadRun.RunEq R (PySem.W.view R.prog [13]) hk ob 6000 looseL w := by
  intro os
  kernel_rfl
theorem dfn_of {K : PySem.W.Frag} {h : Heap} {mg : Str → Option Value} (X : K.In h) (G : h.Ns mainGlobals mg) (c : He.SaysD faL fnL K) (i j k : Nat) (x : Str) (hi : fnL[i]? = some (dOf x k)) (hj : faL[j]? = some (.glo x)) : Dfn K mg x (topS k) := by
  obtain ⟨fd, F⟩ := c.def_ i hi
  exact ⟨⟨_, fd, fun_of F, He.glo_ok X G (c.fact j hj)⟩⟩
theorem facts {P : Program} {w : World} {K : PySem.W.Frag} {h : Heap} {mg : Str → Option Value} (X : K.In h) (G : h.Ns mainGlobals mg) (c : He.SaysD faL fnL K) {fa : Addr} (hfa : mg ("law" : Str) = some (.ref fa)) :
    ∃ fd : FuncData, (∀ (s : Shared) (v : Value), BindsTo s fd ⟨[v], []⟩ [("_law_script", v)]) ∧ ∀ base : Heap, K.In base → base.Ns mainGlobals mg → FnOk P w K mg base CX0 5 fa fd ["_law_script"] (sp_law K) := by
  have B : Bi mg := ⟨He.free_ok X G (c.fact 11 rfl), He.free_ok X G (c.fact 12 rfl), He.free_ok X G (c.fact 13 rfl), He.free_ok X G (c.fact 14 rfl), He.free_ok X G (c.fact 15 rfl), He.free_ok X G (c.fact 16 rfl), He.free_ok X G (c.fact 17 rfl), He.free_ok X G (c.fact 18 rfl), He.free_ok X G (c.fact 19 rfl), He.free_ok X G (c.fact 20 rfl), He.free_ok X G (c.fact 21 rfl), He.free_ok X G (c.fact 22 rfl), He.free_ok X G (c.fact 23 rfl), He.free_ok X G (c.fact 24 rfl), He.free_ok X G (c.fact 25 rfl), He.free_ok X G (c.fact 26 rfl), He.free_ok X G (c.fact 27 rfl), He.free_ok X G (c.fact 28 rfl)⟩
  have C_round_up : Cal P w K mg "round_up" ["number", "divisor"] 1 (sp_round_up K) := ok_round_up B (dfn_of X G c 0 0 1 "round_up" rfl rfl)
  have C_leg_hours : Cal P w K mg "leg_hours" ["length", "slow", "fast"] 2 (sp_leg_hours K) := ok_leg_hours B (dfn_of X G c 1 1 3 "leg_hours" rfl rfl) C_round_up
  have C_leg_speeds : Cal P w K mg "leg_speeds" ["length", "slow", "fast", "hours"] 3 (sp_leg_speeds K) := ok_leg_speeds B (dfn_of X G c 2 2 4 "leg_speeds" rfl rfl) C_leg_hours
  have C_l_hand : Cal P w K mg "_law_hand" ["_law_script", "_law_k"] 1 (sp_l_hand K) := ok_l_hand B (dfn_of X G c 3 3 6 "_law_hand" rfl rfl)
  have C_l_pick : Cal P w K mg "_law_pick" ["_law_hand_here", "_law_size"] 1 (sp_l_pick K) := ok_l_pick B (dfn_of X G c 4 4 7 "_law_pick" rfl rfl)
  have C_l_int : Cal P w K mg "_law_int" ["_law_x"] 1 (sp_l_int K) := ok_l_int B (dfn_of X G c 5 5 8 "_law_int" rfl rfl)
  have C_l_least_hours : Cal P w K mg "_law_least_hours" ["_law_length", "_law_speed"] 1 (sp_l_least_hours K) := ok_l_least_hours B (dfn_of X G c 6 6 9 "_law_least_hours" rfl rfl)
  have C_l_leg : Cal P w K mg "_law_leg" ["_law_hand_here"] 2 (sp_l_leg K) := ok_l_leg B (dfn_of X G c 7 7 10 "_law_leg" rfl rfl) C_l_pick C_l_least_hours
  have C_l_speeds_hold : Cal P w K mg "_law_speeds_hold" ["_law_told", "_law_leg_here"] 2 (sp_l_speeds_hold K) := ok_l_speeds_hold B (dfn_of X G c 8 8 11 "_law_speeds_hold" rfl rfl) C_l_int
  have C_l_leg_holds : Cal P w K mg "_law_leg_holds" ["_law_leg_here"] 4 (sp_l_leg_holds K) := ok_l_leg_holds B (dfn_of X G c 9 9 12 "_law_leg_holds" rfl rfl) C_leg_hours C_leg_speeds C_l_int C_l_least_hours C_l_speeds_hold
  have C_law : Cal P w K mg "law" ["_law_script"] 5 (sp_law K) := ok_law B (dfn_of X G c 10 10 13 "law" rfl rfl) C_l_hand C_l_leg C_l_leg_holds
  exact fn_law hfa C_law
end G

open PySem PySem.W PySem.Calls PyProof.Rows
theorem PySem.Challenge.cw_fogfleet_k37_hours_of_a_leg_holds : PySem.Challenge.rw_fogfleet_k37_hours_of_a_leg.Holds := by
  w_on; o_law
  refine HandSHeadRun.head_any (r := OpenLaw.row PySem.Challenge.rw_fogfleet_k37_hours_of_a_leg) (q := view (OpenLaw.row PySem.Challenge.rw_fogfleet_k37_hours_of_a_leg).prog [13]) (H := G.hk) (ob := G.ob) (M := 6000) (loose := G.looseL) (d := HandSHeadRun.topDef (OpenLaw.row PySem.Challenge.rw_fogfleet_k37_hours_of_a_leg).prog 13) (kwd := []) G.ob_eq
    (by kernel_rfl) (fun s => by kernel_rfl) G.run (by kernel_rfl) (by kernel_rfl) (by kernel_rfl) (by rfl) (by first | assumption | decide +kernel) (by decide +kernel) ⟨rfl, rfl, rfl, rfl, rfl, by decide +kernel⟩ ?hw ?hc
  case hw => w_witness2
  case hc =>
    refine L2.walk_ofE (l := PySem.Challenge.rw_fogfleet_k37_hours_of_a_leg) (n := 63) (k := 5) (x := "_law_script") (CX := L2.CX0) rfl (by decide) (by kernel_rfl) ⟨rfl, by decide, by decide⟩ ?F (fun _ _ _ _ z => z)
    intro w mg fa h Y G0 hmg0
    obtain ⟨K, KX, c⟩ := Y
    have hmg : mg ("law" : PySem.Str) = some (.ref fa) := by
      have e : (HandSHeadRun.topDef (OpenLaw.row PySem.Challenge.rw_fogfleet_k37_hours_of_a_leg).prog 13).name = ("law" : PySem.Str) := by kernel_rfl
      rw [← e]
      exact hmg0
    obtain ⟨fd, hb, hF⟩ := G.facts (P := (PySem.Challenge.rw_fogfleet_k37_hours_of_a_leg).prog) (w := w) KX G0 c hmg
    exact ⟨K, fd, G.sp_law K, KX, hb, fun H a ns hl hO hS => ⟨_, ns, true, rfl, G.yScr_of hO hS, Mi.law_true ns hl, fun _ _ => rfl⟩, hF⟩
